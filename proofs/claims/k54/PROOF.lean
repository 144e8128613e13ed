import PyProof.Rows.All
import Wide.All
import OpenK.AllK
import Wide.FinOn
import HandS.ForMost
import HandS.Wide
import HandS.Lambda
import HandS.TupAny
import HandS.SortInts
import HandS.Gcd
import HandS.IsInst
import HandS.Conv
import HandS.More
import HandS.Style
import HandS.Zip
import HandS.Rev
import HandS.EndBits
import KE.GoesMore
import KE.GoesEnum
import HandS.SetKeys
import HandS.Star
import HandS.Small
import HandS.TryMany
import HandS.EndTab
import HandS.EndOwn
import HandS.NestedK
import HandS.TupMul
import PySem.Challenge.RW_onelate_k54_scales_and_energy
set_option Elab.async false
set_option linter.all false
set_option maxRecDepth 100000
set_option maxHeartbeats 4000000
/-! Values by value: PyData, and places of a small store for what may change. -/
namespace Zd
open PySem PySem.Spec PyProof.Rows L2

/-- a value of the by-value reading: data, or a place of the store -/
inductive D where
  | pd (d : PyData)
  | ref (l : Nat)
  | scr (ns : List Int)

/-- what stands at a place of the store -/
inductive Cell where
  | lst (ds : List PyData)
  | lls (ls : List Nat)
  | dic (kvs : List (Key × PyData))
  | dit (kvs : List (List Key × PyData))
  | tab (p : Addr) (q : Str)

abbrev Store := List Cell
abbrev Env := List (Option D)

/-- an end: a value, an exception (its class by name, its fields), or nothing is known -/
inductive Out (α : Type) where
  | ok (a : α)
  | exc (c : Str) (fs : List (Str × PyData)) (μ : Store)
  | stuck

def Out.bind {α β : Type} (x : Out α) (f : α → Out β) : Out β :=
  match x with
  | .ok a => f a
  | .exc c fs μ => .exc c fs μ
  | .stuck => .stuck
@[simp] theorem Out.ok_bind {α β : Type} (a : α) (f : α → Out β) : (Out.ok a).bind f = f a := rfl
@[simp] theorem Out.stuck_bind {α β : Type} (f : α → Out β) : (Out.stuck : Out α).bind f = .stuck := rfl
@[simp] theorem Out.exc_bind {α β : Type} (c : Str) (fs : List (Str × PyData)) (μ : Store) (f : α → Out β) : (Out.exc c fs μ : Out α).bind f = .exc c fs μ := rfl

/-! ### the part of the heap that stays as it is -/
def Im (H : Hp) (ad xs : List Addr) : Hp := fun a => if a ∈ ad ∨ a ∈ xs then none else H a

theorem Im_some {H : Hp} {ad xs : List Addr} {a : Addr} {o : HO} (h : Im H ad xs a = some o) : a ∉ ad ∧ a ∉ xs ∧ H a = some o := by
  unfold Im at h
  split at h
  · cases h
  · rename_i q
    exact ⟨fun z => q (.inl z), fun z => q (.inr z), h⟩
theorem Im_of {H : Hp} {ad xs : List Addr} {a : Addr} {o : HO} (h1 : a ∉ ad) (h2 : a ∉ xs) (h : H a = some o) : Im H ad xs a = some o := by
  unfold Im
  rw [if_neg (fun z => z.elim h1 h2)]
  exact h

/-! ### data lies at a value, in a heap -/
mutual
inductive Ly (K : PySem.W.Frag) (H : Hp) : V → PyData → Prop
  | non : Ly K H .non .none
  | bl (b : Bool) : Ly K H (.bl b) (.bool b)
  | int (i : Int) : Ly K H (.int i) (.int i)
  | str (x : Str) : Ly K H (.str x) (.str x)
  | lst {a : Addr} {xs : List V} {ds : List PyData} : H a = some (.lst xs) → LyAll K H xs ds → Ly K H (.ref a) (.list ds)
  | tup {a : Addr} {xs : List V} {ds : List PyData} : SqT K H a xs → LyAll K H xs ds → Ly K H (.ref a) (.tuple ds)
inductive LyAll (K : PySem.W.Frag) (H : Hp) : List V → List PyData → Prop
  | nil : LyAll K H [] []
  | cons {v : V} {vs : List V} {d : PyData} {ds : List PyData} : Ly K H v d → LyAll K H vs ds → LyAll K H (v :: vs) (d :: ds)
end
mutual
theorem Ly.dp {K : PySem.W.Frag} {H : Hp} : ∀ {v : V} {d : PyData}, Ly K H v d → Dp K H v d
  | _, _, .non => .non
  | _, _, .bl b => .bl b
  | _, _, .int i => .int i
  | _, _, .str x => .str x
  | _, _, .lst h q => .lst (SqL.of h) (LyAll.dp q)
  | _, _, .tup h q => .tup h (LyAll.dp q)
theorem LyAll.dp {K : PySem.W.Frag} {H : Hp} : ∀ {vs : List V} {ds : List PyData}, LyAll K H vs ds → DpAll K H vs ds
  | _, _, .nil => .nil
  | _, _, .cons h q => .cons (Ly.dp h) (LyAll.dp q)
end
theorem SqT.grow {K : PySem.W.Frag} {H H' : Hp} (e : Same H H') {a : Addr} {xs : List V} (h : SqT K H a xs) : SqT K H' a xs := by
  rcases h with (h | ⟨o, h⟩) | h
  · exact .inl (.inl (e _ _ h))
  · exact .inl (.inr ⟨o, e _ _ h⟩)
  · exact .inr h
mutual
theorem Ly.grow {K : PySem.W.Frag} {H H' : Hp} (e : Same H H') : ∀ {v : V} {d : PyData}, Ly K H v d → Ly K H' v d
  | _, _, .non => .non
  | _, _, .bl b => .bl b
  | _, _, .int i => .int i
  | _, _, .str x => .str x
  | _, _, .lst h q => .lst (e _ _ h) (LyAll.grow e q)
  | _, _, .tup h q => .tup (SqT.grow e h) (LyAll.grow e q)
theorem LyAll.grow {K : PySem.W.Frag} {H H' : Hp} (e : Same H H') : ∀ {vs : List V} {ds : List PyData}, LyAll K H vs ds → LyAll K H' vs ds
  | _, _, .nil => .nil
  | _, _, .cons h q => .cons (Ly.grow e h) (LyAll.grow e q)
end
theorem LyAll.length {K : PySem.W.Frag} {H : Hp} : ∀ {vs : List V} {ds : List PyData}, LyAll K H vs ds → vs.length = ds.length
  | _, _, .nil => rfl
  | _, _, .cons _ q => by simp [LyAll.length q]
theorem LyAll.get {K : PySem.W.Frag} {H : Hp} : ∀ {vs : List V} {ds : List PyData} {i : Nat} {d : PyData}, LyAll K H vs ds → ds[i]? = some d → ∃ v, vs[i]? = some v ∧ Ly K H v d
  | _, _, _, _, .nil, e => by simp at e
  | _, _, 0, _, .cons h _, e => by simp at e; subst e; exact ⟨_, rfl, h⟩
  | _, _, i + 1, _, .cons _ q, e => by
    obtain ⟨v, e1, e2⟩ := LyAll.get (i := i) q (by simpa using e)
    exact ⟨v, by simpa using e1, e2⟩
theorem LyAll.append {K : PySem.W.Frag} {H : Hp} : ∀ {vs ws : List V} {ds es : List PyData}, LyAll K H vs ds → LyAll K H ws es → LyAll K H (vs ++ ws) (ds ++ es)
  | _, _, _, _, .nil, h => h
  | _, _, _, _, .cons p q, h => .cons p (LyAll.append q h)
theorem LyAll.set {K : PySem.W.Frag} {H : Hp} {v : V} {d : PyData} (p : Ly K H v d) : ∀ {vs : List V} {ds : List PyData} (i : Nat), LyAll K H vs ds → LyAll K H (vs.set i v) (ds.set i d)
  | _, _, _, .nil => .nil
  | _, _, 0, .cons _ q => .cons p q
  | _, _, i + 1, .cons h q => .cons h (LyAll.set p i q)
theorem LyAll.take {K : PySem.W.Frag} {H : Hp} : ∀ {vs : List V} {ds : List PyData} (n : Nat), LyAll K H vs ds → LyAll K H (vs.take n) (ds.take n)
  | _, _, 0, _ => by simpa using LyAll.nil
  | _, _, _ + 1, .nil => .nil
  | _, _, n + 1, .cons h q => .cons h (LyAll.take n q)
theorem LyAll.drop {K : PySem.W.Frag} {H : Hp} : ∀ {vs : List V} {ds : List PyData} (n : Nat), LyAll K H vs ds → LyAll K H (vs.drop n) (ds.drop n)
  | _, _, 0, h => h
  | _, _, _ + 1, .nil => .nil
  | _, _, n + 1, .cons _ q => LyAll.drop n q
theorem LyAll.eraseIdx {K : PySem.W.Frag} {H : Hp} : ∀ {vs : List V} {ds : List PyData} (n : Nat), LyAll K H vs ds → LyAll K H (vs.eraseIdx n) (ds.eraseIdx n)
  | _, _, _, .nil => .nil
  | _, _, 0, .cons _ q => q
  | _, _, n + 1, .cons h q => .cons h (LyAll.eraseIdx n q)
theorem LyAll.reverse {K : PySem.W.Frag} {H : Hp} {vs : List V} {ds : List PyData} (h : LyAll K H vs ds) : LyAll K H vs.reverse ds.reverse := by
  induction vs generalizing ds with
  | nil => cases h; exact .nil
  | cons v r ih =>
    cases h with
    | cons p q =>
      rw [List.reverse_cons, List.reverse_cons]
      exact LyAll.append (ih q) (.cons p .nil)
theorem LyAll.map_int {K : PySem.W.Frag} {H : Hp} : ∀ (ns : List Int), LyAll K H (ns.map V.int) (ns.map PyData.int)
  | [] => .nil
  | n :: r => .cons (.int n) (LyAll.map_int r)

/-! ### the state -/
/-- a value lies -/
def Rep (K : PySem.W.Frag) (H : Hp) (ad xs : List Addr) : D → V → Prop
  | .pd d, v => Ly K (Im H ad xs) v d
  | .ref l, v => ∃ a, ad[l]? = some a ∧ v = .ref a
  | .scr ns, v => ∃ a, v = .ref a ∧ SqL K (Im H ad xs) a (ns.map V.int)

def CellOk (K : PySem.W.Frag) (H : Hp) (ad xs : List Addr) (a : Addr) : Cell → Prop
  | .lst ds => ∃ vs, H a = some (.lst vs) ∧ LyAll K (Im H ad xs) vs ds
  | .lls ls => ∃ as : List Addr, H a = some (.lst (as.map V.ref)) ∧ as.map some = ls.map (fun l => ad[l]?)
  | .dic kvs => ∃ ws : List (Key × V), H a = some (.dK ws) ∧ ws.map (·.1) = kvs.map (·.1) ∧ LyAll K (Im H ad xs) (ws.map (·.2)) (kvs.map (·.2))
  | .dit kvs => ∃ ws : List (List Key × V), H a = some (.dT ws) ∧ ws.map (·.1) = kvs.map (·.1) ∧ LyAll K (Im H ad xs) (ws.map (·.2)) (kvs.map (·.2))
  | .tab p q => a = p ∧ ∃ ps : Array Value, H a = some (.tbl ps) ∧ TriplesOk ps.toList ∧ ∀ (pos : Pos) (cv : Value), codeAmong pos ps.toList = some cv → ∃ c, cv = .ref c ∧ Im H ad xs c = some (LamX.CodeO c q)

structure WOk (K : PySem.W.Frag) (H : Hp) (ad xs : List Addr) (μ : Store) : Prop where
  len : ad.length = μ.length
  nd : (ad ++ xs).Nodup
  there : ∀ a, (a ∈ ad ∨ a ∈ xs) → ∃ o, H a = some o
  cell : ∀ (l : Nat) (a : Addr) (c : Cell), ad[l]? = some a → μ[l]? = some c → CellOk K H ad xs a c

/-- later: what stays has stayed, places were only added -/
structure Ext (H : Hp) (ad xs : List Addr) (H' : Hp) (ad' : List Addr) : Prop where
  same : Same (Im H ad xs) (Im H' ad' xs)
  pre : ∃ nw, ad' = ad ++ nw
  keepx : ∀ a, a ∈ xs → H' a = H a

section
variable {K : PySem.W.Frag} {H H1 H2 : Hp} {ad ad1 ad2 xs : List Addr} {μ : Store}
theorem Ext.refl : Ext H ad xs H ad := ⟨fun _ _ h => h, ⟨[], by simp⟩, fun _ _ => rfl⟩
theorem Ext.trans (a : Ext H ad xs H1 ad1) (b : Ext H1 ad1 xs H2 ad2) : Ext H ad xs H2 ad2 := by
  obtain ⟨n1, e1⟩ := a.pre
  obtain ⟨n2, e2⟩ := b.pre
  exact ⟨fun c o h => b.same c o (a.same c o h), ⟨n1 ++ n2, by rw [e2, e1, List.append_assoc]⟩, fun c hc => (b.keepx c hc).trans (a.keepx c hc)⟩
theorem Ext.get (e : Ext H ad xs H1 ad1) {l : Nat} {a : Addr} (h : ad[l]? = some a) : ad1[l]? = some a := by
  obtain ⟨nw, rfl⟩ := e.pre
  rw [List.getElem?_append_left (by
    obtain ⟨h1, _⟩ := List.getElem?_eq_some_iff.mp h
    exact h1)]
  exact h
theorem Rep.to {xs1 : List Addr} (s : Same (Im H ad xs) (Im H1 ad1 xs1)) (p : ∃ nw, ad1 = ad ++ nw) {d : D} {v : V} (h : Rep K H ad xs d v) : Rep K H1 ad1 xs1 d v := by
  cases d with
  | pd d => exact Ly.grow s h
  | ref l =>
    obtain ⟨a, h1, h2⟩ := h
    obtain ⟨nw, rfl⟩ := p
    exact ⟨a, by
      rw [List.getElem?_append_left (by
        obtain ⟨h3, _⟩ := List.getElem?_eq_some_iff.mp h1
        exact h3)]
      exact h1, h2⟩
  | scr ns =>
    obtain ⟨a, h1, h2⟩ := h
    exact ⟨a, h1, Same.seq s h2⟩
theorem Rep.ext (e : Ext H ad xs H1 ad1) {d : D} {v : V} (h : Rep K H ad xs d v) : Rep K H1 ad1 xs d v := by
  cases d with
  | pd d => exact Ly.grow e.same h
  | ref l =>
    obtain ⟨a, h1, h2⟩ := h
    exact ⟨a, e.get h1, h2⟩
  | scr ns =>
    obtain ⟨a, h1, h2⟩ := h
    exact ⟨a, h1, Same.seq e.same h2⟩
/-- what a value holds at this moment -/
def deref (μ : Store) : D → Option PyData
  | .pd d => some d
  | .ref l => match μ[l]? with
    | some (.lst ds) => some (.list ds)
    | _ => none
  | .scr _ => none
@[simp] theorem deref_pd (μ : Store) (d : PyData) : deref μ (.pd d) = some d := rfl
theorem Im_le : Same (Im H ad xs) H := fun a o h => (Im_some h).2.2
/-- it lies there, or in a list that may change and holds it at this moment -/
def Mo (K : PySem.W.Frag) (H : Hp) (ad xs : List Addr) (v : V) (p : PyData) : Prop :=
  Ly K (Im H ad xs) v p ∨ ∃ a vs ds, v = .ref a ∧ p = .list ds ∧ H a = some (.lst vs) ∧ LyAll K (Im H ad xs) vs ds
theorem Mo.dp {v : V} {p : PyData} (h : Mo K H ad xs v p) : Dp K H v p := by
  rcases h with h | ⟨a, vs, ds, rfl, rfl, e, q⟩
  · exact (Ly.grow Im_le h).dp
  · exact .lst (SqL.of e) (LyAll.grow Im_le q).dp
theorem Mo.list {v : V} {ds : List PyData} (h : Mo K H ad xs v (.list ds)) : ∃ a vs, v = .ref a ∧ H a = some (.lst vs) ∧ LyAll K (Im H ad xs) vs ds := by
  rcases h with h | ⟨a, vs, es, rfl, e0, e, q⟩
  · cases h with
    | lst h q => exact ⟨_, _, rfl, Im_le _ _ h, q⟩
  · cases e0
    exact ⟨a, vs, rfl, e, q⟩
theorem Mo.tuple {v : V} {ds : List PyData} (h : Mo K H ad xs v (.tuple ds)) : ∃ a vs, v = .ref a ∧ SqT K H a vs ∧ LyAll K (Im H ad xs) vs ds := by
  rcases h with h | ⟨a, vs, es, rfl, e0, e, q⟩
  · cases h with
    | tup h q => exact ⟨_, _, rfl, SqT.grow Im_le h, q⟩
  · cases e0
theorem Mo.int {v : V} {i : Int} (h : Mo K H ad xs v (.int i)) : v = .int i := by
  rcases h with h | ⟨a, vs, es, rfl, e0, e, q⟩
  · cases h; rfl
  · cases e0
theorem Mo.bl {v : V} {b : Bool} (h : Mo K H ad xs v (.bool b)) : v = .bl b := by
  rcases h with h | ⟨a, vs, es, rfl, e0, e, q⟩
  · cases h; rfl
  · cases e0
theorem Mo.str {v : V} {b : Str} (h : Mo K H ad xs v (.str b)) : v = .str b := by
  rcases h with h | ⟨a, vs, es, rfl, e0, e, q⟩
  · cases h; rfl
  · cases e0
theorem Mo.non {v : V} (h : Mo K H ad xs v .none) : v = .non := by
  rcases h with h | ⟨a, vs, es, rfl, e0, e, q⟩
  · cases h; rfl
  · cases e0
theorem WOk.mo (w : WOk K H ad xs μ) {d : D} {v : V} {p : PyData} (h : Rep K H ad xs d v) (e : deref μ d = some p) : Mo K H ad xs v p := by
  cases d with
  | pd q =>
    have e' : q = p := Option.some.inj e
    subst e'
    exact .inl h
  | ref l =>
    obtain ⟨a, h1, rfl⟩ := h
    cases hc : μ[l]? with
    | none =>
      simp [Zd.deref, hc] at e
    | some c =>
      cases c with
      | lst ds =>
        simp [Zd.deref, hc] at e
        subst e
        obtain ⟨vs, e1, e2⟩ := w.cell l a _ h1 hc
        exact .inr ⟨a, vs, ds, rfl, rfl, e1, e2⟩
      | _ => simp [Zd.deref, hc] at e
  | scr ns => simp [Zd.deref] at e

/-- a new immutable object -/
theorem Im_new {p : Addr} {o : HO} (w : WOk K H ad xs μ) (hp : H p = none) : p ∉ ad ∧ p ∉ xs := by
  constructor
  · intro z
    obtain ⟨o, e⟩ := w.there p (.inl z)
    rw [hp] at e; cases e
  · intro z
    obtain ⟨o, e⟩ := w.there p (.inr z)
    rw [hp] at e; cases e
theorem Im_upd_new {p : Addr} {o : HO} (h1 : p ∉ ad) (h2 : p ∉ xs) : Im (upd H p o) ad xs = upd (Im H ad xs) p o := by
  funext a
  unfold Im upd
  by_cases e : a = p
  · subst e
    rw [if_neg (fun z => z.elim h1 h2), if_pos rfl]
    simp
  · simp [e]
theorem same_new {p : Addr} {o : HO} (hp : H p = none) : Same H (upd H p o) := fun b x e => by
  rw [upd_ne (ne_of_none e hp)]
  exact e
theorem Im_none {p : Addr} (hp : H p = none) : Im H ad xs p = none := by
  unfold Im
  split <;> first | rfl | exact hp
theorem CellOk.grow {a : Addr} {c : Cell} (h : CellOk K H ad xs a c) (e : Same (Im H ad xs) (Im H1 ad1 xs)) (p : ∃ nw, ad1 = ad ++ nw) (q : H1 a = H a) : CellOk K H1 ad1 xs a c := by
  cases c with
  | lst ds =>
    obtain ⟨vs, e1, e2⟩ := h
    exact ⟨vs, q.trans e1, LyAll.grow e e2⟩
  | lls ls =>
    obtain ⟨as, e1, e2⟩ := h
    refine ⟨as, q.trans e1, ?_⟩
    obtain ⟨nw, rfl⟩ := p
    rw [e2]
    have hh : ∀ l ∈ ls, ad[l]? = (ad ++ nw)[l]? := by
      intro l hl
      have : (ad[l]?).isSome = true := by
        have m : ad[l]? ∈ ls.map (fun l => ad[l]?) := List.mem_map.mpr ⟨l, hl, rfl⟩
        rw [← e2] at m
        obtain ⟨x, _, hx⟩ := List.mem_map.mp m
        rw [← hx]; rfl
      obtain ⟨x, hx⟩ := Option.isSome_iff_exists.mp this
      rw [List.getElem?_append_left (by
        obtain ⟨h1, _⟩ := List.getElem?_eq_some_iff.mp hx
        exact h1)]
    exact List.map_congr_left hh
  | dic kvs =>
    obtain ⟨ws, e1, e2, e3⟩ := h
    exact ⟨ws, q.trans e1, e2, LyAll.grow e e3⟩
  | dit kvs =>
    obtain ⟨ws, e1, e2, e3⟩ := h
    exact ⟨ws, q.trans e1, e2, LyAll.grow e e3⟩
  | tab pq qq =>
    obtain ⟨e0, ps, k1, k2, k3⟩ := h
    exact ⟨e0, ps, q.trans k1, k2, fun pos cv hc => let ⟨c, h1, h2⟩ := k3 pos cv hc; ⟨c, h1, e _ _ h2⟩⟩
/-- a new object that stays -/
theorem WOk.new {p : Addr} {o : HO} (w : WOk K H ad xs μ) (hp : H p = none) : WOk K (upd H p o) ad xs μ ∧ Ext H ad xs (upd H p o) ad ∧ Im (upd H p o) ad xs p = some o := by
  obtain ⟨h1, h2⟩ := Im_new (o := o) w hp
  have es : Same (Im H ad xs) (Im (upd H p o) ad xs) := by
    rw [Im_upd_new h1 h2]
    exact same_new (Im_none hp)
  refine ⟨⟨w.len, w.nd, fun a ha => ?_, fun l a c e1 e2 => ?_⟩, ⟨es, ⟨[], by simp⟩, fun a ha => upd_ne fun z => h2 (z ▸ ha)⟩, ?_⟩
  · obtain ⟨o', e⟩ := w.there a ha
    exact ⟨o', same_new hp _ _ e⟩
  · refine (w.cell l a c e1 e2).grow es ⟨[], by simp⟩ (upd_ne ?_)
    rintro rfl
    exact h1 (List.mem_of_getElem? e1)
  · rw [Im_upd_new h1 h2, upd_same]
/-- a new object that may change: a place more -/
theorem WOk.alloc {p : Addr} {o : HO} {c : Cell} (w : WOk K H ad xs μ) (hp : H p = none) (hc : CellOk K (upd H p o) (ad ++ [p]) xs p c) : WOk K (upd H p o) (ad ++ [p]) xs (μ ++ [c]) ∧ Ext H ad xs (upd H p o) (ad ++ [p]) := by
  obtain ⟨h1, h2⟩ := Im_new (o := o) w hp
  have es : Same (Im H ad xs) (Im (upd H p o) (ad ++ [p]) xs) := fun a u e => by
    obtain ⟨e1, e2, e3⟩ := Im_some e
    have ne : a ≠ p := ne_of_none e3 hp
    exact Im_of (by simp [e1, ne]) e2 ((upd_ne ne).trans e3)
  refine ⟨⟨by simp [w.len], ?_, fun a ha => ?_, fun l a c' e1 e2 => ?_⟩, ⟨es, ⟨[p], rfl⟩, fun a ha => upd_ne fun z => h2 (z ▸ ha)⟩⟩
  · have nd := w.nd
    rw [List.nodup_append] at nd ⊢
    obtain ⟨n1, n2, n3⟩ := nd
    refine ⟨?_, n2, fun a ha b hb => ?_⟩
    · rw [List.nodup_append]
      refine ⟨n1, by simp, fun a ha b hb => ?_⟩
      have : b = p := by simpa using hb
      subst this
      exact fun z => h1 (z ▸ ha)
    · rcases List.mem_append.mp ha with ha | ha
      · exact n3 a ha b hb
      · have : a = p := by simpa using ha
        subst this
        exact fun z => h2 (z ▸ hb)
  · by_cases e : a = p
    · exact ⟨o, by rw [e, upd_same]⟩
    · have ha' : a ∈ ad ∨ a ∈ xs := by
        rcases ha with ha | ha
        · rcases List.mem_append.mp ha with ha | ha
          · exact .inl ha
          · exact absurd (by simpa using ha) e
        · exact .inr ha
      obtain ⟨o', e'⟩ := w.there a ha'
      exact ⟨o', same_new hp _ _ e'⟩
  · by_cases hl : l < ad.length
    · rw [List.getElem?_append_left hl] at e1
      rw [List.getElem?_append_left (by rw [← w.len]; exact hl)] at e2
      refine (w.cell l a c' e1 e2).grow es ⟨[p], rfl⟩ (upd_ne ?_)
      rintro rfl
      exact h1 (List.mem_of_getElem? e1)
    · have el : l = ad.length := by
        obtain ⟨q, _⟩ := List.getElem?_eq_some_iff.mp e1
        simp at q
        omega
      subst el
      rw [List.getElem?_append_right (Nat.le_refl _)] at e1
      rw [w.len, List.getElem?_append_right (Nat.le_refl _)] at e2
      simp at e1 e2
      subst e1
      subst e2
      exact hc
/-- a place is written -/
theorem WOk.write {l : Nat} {a : Addr} {o : HO} {c : Cell} (w : WOk K H ad xs μ) (ha : ad[l]? = some a) (hc : CellOk K (upd H a o) ad xs a c) : WOk K (upd H a o) ad xs (μ.set l c) ∧ Ext H ad xs (upd H a o) ad := by
  have hm : a ∈ ad := List.mem_of_getElem? ha
  have es : Im (upd H a o) ad xs = Im H ad xs := by
    funext b
    unfold Im upd
    by_cases e : b = a
    · subst e
      simp [hm]
    · simp [e]
  have es' : Same (Im H ad xs) (Im (upd H a o) ad xs) := by rw [es]; exact fun _ _ h => h
  refine ⟨⟨by simp [w.len], w.nd, fun b hb => ?_, fun k b c' e1 e2 => ?_⟩, ⟨es', ⟨[], by simp⟩, fun b hb => upd_ne fun z => (List.nodup_append.mp w.nd).2.2 a hm b hb z.symm⟩⟩
  · by_cases e : b = a
    · exact ⟨o, by rw [e, upd_same]⟩
    · obtain ⟨o', e'⟩ := w.there b hb
      exact ⟨o', (upd_ne e).trans e'⟩
  · by_cases hk : k = l
    · subst hk
      rw [ha] at e1
      cases e1
      have : k < μ.length := by
        rw [← w.len]
        exact (List.getElem?_eq_some_iff.mp ha).1
      rw [List.getElem?_set_self this] at e2
      cases e2
      exact hc
    · rw [List.getElem?_set_ne (Ne.symm hk)] at e2
      refine (w.cell k b c' e1 e2).grow es' ⟨[], by simp⟩ (upd_ne ?_)
      rintro rfl
      have nd : ad.Nodup := (List.nodup_append.mp w.nd).1
      obtain ⟨q1, p1⟩ := List.getElem?_eq_some_iff.mp e1
      obtain ⟨q2, p2⟩ := List.getElem?_eq_some_iff.mp ha
      exact hk ((List.getElem_inj nd).mp (p1.trans p2.symm))
end

/-! ### slots -/
structure SRep (K : PySem.W.Frag) (H : Hp) (ad xs : List Addr) (σ : L2.St) (env : Env) : Prop where
  len : σ.length = env.length
  at_ : ∀ (i : Nat) (d : D), env[i]? = some (some d) → ∃ v, σ[i]? = some (some v) ∧ Rep K H ad xs d v
section
variable {K : PySem.W.Frag} {H H1 H2 : Hp} {ad ad1 ad2 xs : List Addr} {μ : Store} {σ : L2.St} {env : Env}
theorem SRep.ext (e : Ext H ad xs H1 ad1) (h : SRep K H ad xs σ env) : SRep K H1 ad1 xs σ env := ⟨h.len, fun i d q => by
  obtain ⟨v, h1, h2⟩ := h.at_ i d q
  exact ⟨v, h1, h2.ext e⟩⟩
theorem SRep.to {xs1 : List Addr} (s : Same (Im H ad xs) (Im H1 ad1 xs1)) (p : ∃ nw, ad1 = ad ++ nw) (h : SRep K H ad xs σ env) : SRep K H1 ad1 xs1 σ env := ⟨h.len, fun i d q => by
  obtain ⟨v, h1, h2⟩ := h.at_ i d q
  exact ⟨v, h1, h2.to s p⟩⟩
theorem SRep.set (h : SRep K H ad xs σ env) {i : Nat} {d : D} {v : V} (r : Rep K H ad xs d v) : SRep K H ad xs (σ.set i (some v)) (env.set i (some d)) := ⟨by simp [h.len], fun j e q => by
  by_cases hj : j = i
  · subst hj
    have hl : j < env.length := by
      have := (List.getElem?_eq_some_iff.mp q).1
      simpa using this
    rw [List.getElem?_set_self hl] at q
    cases q
    exact ⟨v, List.getElem?_set_self (by rw [h.len]; exact hl), r⟩
  · rw [List.getElem?_set_ne (Ne.symm hj)] at q
    obtain ⟨w, h1, h2⟩ := h.at_ j e q
    exact ⟨w, by rw [List.getElem?_set_ne (Ne.symm hj)]; exact h1, h2⟩⟩
theorem SRep.forget (h : SRep K H ad xs σ env) (i : Nat) : SRep K H ad xs σ (env.set i none) := ⟨by simp [h.len], fun j e q => by
  by_cases hj : j = i
  · subst hj
    by_cases hl : j < env.length
    · rw [List.getElem?_set_self hl] at q; cases q
    · rw [List.getElem?_eq_none (by simpa using hl)] at q; cases q
  · rw [List.getElem?_set_ne (Ne.symm hj)] at q
    exact h.at_ j e q⟩
/-- slots forgotten -/
def wipeE (env : Env) : List Nat → Env
  | [] => env
  | v :: vs => (wipeE env vs).set v none
theorem SRep.wipe (h : SRep K H ad xs σ env) : ∀ vs : List Nat, SRep K H ad xs (L2.wipe σ vs) (wipeE env vs)
  | [] => h
  | v :: vs => by
    have ih := SRep.wipe h vs
    refine ⟨by simp [L2.wipe, wipeE, ih.len], fun j e q => ?_⟩
    unfold wipeE at q
    unfold L2.wipe
    by_cases hj : j = v
    · subst hj
      by_cases hl : j < (wipeE env vs).length
      · rw [List.getElem?_set_self hl] at q; cases q
      · rw [List.getElem?_eq_none (by simpa using hl)] at q; cases q
    · rw [List.getElem?_set_ne (Ne.symm hj)] at q
      rw [List.getElem?_set_ne (Ne.symm hj)]
      exact ih.at_ j e q
theorem SRep.forgets (h : SRep K H ad xs σ env) : ∀ vs : List Nat, SRep K H ad xs σ (wipeE env vs)
  | [] => h
  | v :: vs => (SRep.forgets h vs).forget v
end
end Zd

set_option Elab.async false
set_option linter.all false
set_option maxRecDepth 100000
set_option maxHeartbeats 4000000
/-! Expressions, read by value. -/
namespace Zd
open PySem PySem.Spec PyProof.Rows L2

abbrev Wish := Str → List (Str × PyData) → Hp → List Addr → Store → Prop
abbrev W0 : Wish := fun _ _ _ _ _ => False
/-- what holds behind, wherever things lie then -/
def Post {α : Type} (K : PySem.W.Frag) (xs : List Addr) (W : Wish) (H : Hp) (ad : List Addr) (o : Out (α × Store)) (Q : α → Hp → List Addr → Store → Prop) : Prop :=
  match o with
  | .ok p => ∀ H' ad', Ext H ad xs H' ad' → WOk K H' ad' xs p.2 → Q p.1 H' ad' p.2
  | .exc c fs μ' => ∀ H' ad', Ext H ad xs H' ad' → WOk K H' ad' xs μ' → W c fs H' ad' μ'
  | .stuck => False
section
variable {K : PySem.W.Frag} {xs : List Addr} {W : Wish} {H : Hp} {ad : List Addr}
theorem Post.mono {α : Type} {o : Out (α × Store)} {Q Q' : α → Hp → List Addr → Store → Prop} (h : Post K xs W H ad o Q)
    (k : ∀ a H' ad' μ', Ext H ad xs H' ad' → WOk K H' ad' xs μ' → Q a H' ad' μ' → Q' a H' ad' μ') : Post K xs W H ad o Q' := by
  cases o with
  | ok p => exact fun H' ad' e w => k _ _ _ _ e w (h H' ad' e w)
  | exc c fs μ' => exact h
  | stuck => exact h
theorem Post.bind {α β : Type} {o : Out (α × Store)} {g : α × Store → Out (β × Store)} {Q : β → Hp → List Addr → Store → Prop} (h : Post K xs W H ad (o.bind g) Q) :
    Post K xs W H ad o fun a H1 ad1 μ1 => Post K xs W H1 ad1 (g (a, μ1)) Q := by
  cases o with
  | ok p =>
    intro H1 ad1 e1 w1
    have h' : Post K xs W H ad (g p) Q := h
    show Post K xs W H1 ad1 (g p) Q
    revert h'
    cases g p with
    | ok q => exact fun h' H' ad' e w => h' H' ad' (e1.trans e) w
    | exc c fs μ' => exact fun h' H' ad' e w => h' H' ad' (e1.trans e) w
    | stuck => exact fun h' => h'
  | exc c fs μ' => exact h
  | stuck => exact h
theorem Post.ok {α : Type} {a : α} {μ : Store} {Q : α → Hp → List Addr → Store → Prop} (h : Post K xs W H ad (.ok (a, μ)) Q) (w : WOk K H ad xs μ) : Q a H ad μ := h H ad Ext.refl w
theorem Post.ok_at {α : Type} {a : α} {μ : Store} {Q : α → Hp → List Addr → Store → Prop} (h : Post K xs W H ad (.ok (a, μ)) Q) {H' : Hp} {ad' : List Addr} (e : Ext H ad xs H' ad') (w : WOk K H' ad' xs μ) : Q a H' ad' μ := h H' ad' e w
end

abbrev EvE := Env → Store → Out (D × Store)
abbrev EvT := Env → Store → Out (Bool × Store)
abbrev EvA := Env → Store → Out (List D × Store)
abbrev EvF := Env → Store → Out (List PyData × Store)

def tD (K : PySem.W.Frag) (W : Wish) (ev : EvE) : TE := fun σ H Q => ∃ ad xs env μ, SRep K H ad xs σ env ∧ WOk K H ad xs μ ∧
  Post K xs W H ad (ev env μ) fun d H' ad' _ => ∀ v, Rep K H' ad' xs d v → Q v H'
def tDT (K : PySem.W.Frag) (W : Wish) (ev : EvT) : TT := fun σ H Q => ∃ ad xs env μ, SRep K H ad xs σ env ∧ WOk K H ad xs μ ∧
  Post K xs W H ad (ev env μ) fun b H' ad' _ => Q b H'
def RepAll (K : PySem.W.Frag) (H : Hp) (ad xs : List Addr) (ds : List D) (vs : List V) : Prop := Paired (Rep K H ad xs) ds vs
def tDA (K : PySem.W.Frag) (W : Wish) (ev : EvA) : TA := fun σ H Q => ∃ ad xs env μ, SRep K H ad xs σ env ∧ WOk K H ad xs μ ∧
  Post K xs W H ad (ev env μ) fun ds H' ad' _ => ∀ vs, RepAll K H' ad' xs ds vs → Q vs H'
def tDF (K : PySem.W.Frag) (W : Wish) (ev : EvF) : TE := fun σ H Q => ∃ ad xs env μ, SRep K H ad xs σ env ∧ WOk K H ad xs μ ∧
  Post K xs W H ad (ev env μ) fun ds H' ad' _ => ∀ p vs, H' p = none → LyAll K (Im H' ad' xs) vs ds → Q (.ref p) (upd H' p (.lst vs))

/-- an expression, a test, an argument list, an expression that makes a list -/
abbrev SE (X : Cx) (W : Wish) (e : Expr) (ev : EvE) : Prop := PE X e (tD X.K W ev)
abbrev ST (X : Cx) (W : Wish) (e : Expr) (ev : EvT) : Prop := PT X e (tDT X.K W ev)
abbrev SW (X : Cx) (W : Wish) (e : Expr) (ev : EvT) : Prop := PW X e (tDT X.K W ev)
abbrev SA (X : Cx) (W : Wish) (es : List Expr) (ev : EvA) : Prop := PA X es (tDA X.K W ev)
abbrev SF (X : Cx) (W : Wish) (e : Expr) (ev : EvF) : Prop := PE X e (tDF X.K W ev)

section
variable {X : Cx}
theorem pe_imp {e : Expr} {t t' : TE} (h : PE X e t) (k : ∀ σ H Q, t' σ H Q → t σ H Q) : PE X e t' := ⟨fun pins s σ H Q I q => h.run pins s σ H Q I (k _ _ _ q)⟩
theorem pt_imp {e : Expr} {t t' : TT} (h : PT X e t) (k : ∀ σ H Q, t' σ H Q → t σ H Q) : PT X e t' := ⟨fun pins s σ H Q I q => h.run pins s σ H Q I (k _ _ _ q)⟩
theorem pw_imp {e : Expr} {t t' : TT} (h : PW X e t) (k : ∀ σ H Q, t' σ H Q → t σ H Q) : PW X e t' := ⟨fun wh pins s σ H Q I q => h.run wh pins s σ H Q I (k _ _ _ q)⟩
theorem pa_imp {es : List Expr} {t t' : TA} (h : PA X es t) (k : ∀ σ H Q, t' σ H Q → t σ H Q) : PA X es t' := ⟨fun pos pins s σ H Q I q => h.run pos pins s σ H Q I (k _ _ _ q)⟩
end

/-! ### names, constants -/
def eVar (i : Nat) : EvE := fun env μ => match env[i]? with
  | some (some d) => .ok (d, μ)
  | _ => .stuck
def eC (d : PyData) : EvE := fun _ μ => .ok (.pd d, μ)
section
variable {X : Cx} {W : Wish}
theorem se_var (i : Nat) {x : Str} {pos : Pos} (hN : X.N[i]? = some x := by rfl) (hv : Vis X.env.scope x := by first | exact Or.inl rfl | exact Or.inr (Or.inl rfl) | exact Or.inr (Or.inr rfl)) (hd : (x == ("__debug__" : Str)) = false := by decide)
    (hcd : (x == ("__classdict__" : Str)) = false := by decide) : SE X W (.Name x pos) (eVar i) := by
  refine pe_imp (pe_var hN hv hd hcd) fun σ H Q h => ?_
  obtain ⟨ad, xs, env, μ, sr, w, p⟩ := h
  unfold eVar at p
  cases he : env[i]? with
  | none => rw [he] at p; exact p.elim
  | some o =>
    cases o with
    | none => rw [he] at p; exact p.elim
    | some d =>
      rw [he] at p
      obtain ⟨v, h1, h2⟩ := sr.at_ i d he
      exact ⟨v, h1, p.ok w v h2⟩
theorem se_of_c {e : Expr} {v : V} {d : PyData} (h : PE X e (tC v)) (l : ∀ H, Ly X.K H v d) : SE X W e (eC d) := by
  refine pe_imp h fun σ H Q h => ?_
  obtain ⟨ad, xs, env, μ, sr, w, p⟩ := h
  exact p.ok w v (l _)
theorem se_int {i : Int} {j : Nat} {pos : Pos} : SE X W (.Constant (.int i) j pos) (eC (.int i)) := se_of_c pe_int fun _ => .int i
theorem se_bl {b : Bool} {j : Nat} {pos : Pos} : SE X W (.Constant (.bool b) j pos) (eC (.bool b)) := se_of_c pe_bl fun _ => .bl b
theorem se_non {j : Nat} {pos : Pos} : SE X W (.Constant .none j pos) (eC .none) := se_of_c pe_non fun _ => .non
theorem se_str {x : Str} {j : Nat} {pos : Pos} : SE X W (.Constant (.str x) j pos) (eC (.str x)) := se_of_c pe_str fun _ => .str x
/-- a constant of the module -/
theorem se_glob {x : Str} {v : V} {u : Value} {d : PyData} {pos : Pos} (hg : Gl X x) (hm : X.mg x = some u) (r : RelV v u) (l : ∀ H, Ly X.K H v d) (hd : (x == ("__debug__" : Str)) = false := by decide) : SE X W (.Name x pos) (eC d) := se_of_c (pe_glob hg hm r hd) l
end

/-! ### lists that are made -/
def eFrz (ev : EvF) : EvE := fun env μ => (ev env μ).bind fun p => .ok (.pd (.list p.1), p.2)
def eOwn (ev : EvF) : EvE := fun env μ => (ev env μ).bind fun p => .ok (.ref p.2.length, p.2 ++ [.lst p.1])
section
variable {X : Cx} {W : Wish} {e : Expr} {ev : EvF}
theorem se_frz (h : SF X W e ev) : SE X W e (eFrz ev) := by
  refine pe_imp h fun σ H Q h => ?_
  obtain ⟨ad, xs, env, μ, sr, w, p⟩ := h
  refine ⟨ad, xs, env, μ, sr, w, p.bind.mono fun ds H1 ad1 μ1 e1 w1 q r vs hp l => ?_⟩
  obtain ⟨w2, e2, i2⟩ := w1.new (o := .lst vs) hp
  exact q.ok_at e2 w2 _ (.lst i2 (LyAll.grow e2.same l))
theorem se_own (h : SF X W e ev) : SE X W e (eOwn ev) := by
  refine pe_imp h fun σ H Q h => ?_
  obtain ⟨ad, xs, env, μ, sr, w, p⟩ := h
  refine ⟨ad, xs, env, μ, sr, w, p.bind.mono fun ds H1 ad1 μ1 e1 w1 q r vs hp l => ?_⟩
  have es : Same (Im H1 ad1 xs) (Im (upd H1 r (.lst vs)) (ad1 ++ [r]) xs) := fun a u e => by
    obtain ⟨x1, x2, x3⟩ := Im_some e
    have ne : a ≠ r := ne_of_none x3 hp
    exact Im_of (by simp [x1, ne]) x2 ((upd_ne ne).trans x3)
  obtain ⟨w2, e2⟩ := w1.alloc (o := .lst vs) (c := .lst ds) hp ⟨vs, upd_same, LyAll.grow es l⟩
  exact q.ok_at e2 w2 _ ⟨r, by rw [← w1.len]; simp, rfl⟩
end

/-! ### operators by values -/
/-- a rule's answer: new things may lie, nothing changes -/
def Ans (K : PySem.W.Frag) (xs : List Addr) (H : Hp) (ad : List Addr) (μ : Store) (d : PyData) (Q : VK) : Prop :=
  ∀ H' v, Ext H ad xs H' ad → WOk K H' ad xs μ → Ly K (Im H' ad xs) v d → Q v H'
section
variable {K : PySem.W.Frag} {xs ad : List Addr} {H : Hp} {μ : Store} {d : PyData} {Q : VK} {v : V}
theorem Ans.same (h : Ans K xs H ad μ d Q) (w : WOk K H ad xs μ) (l : Ly K (Im H ad xs) v d) : Q v H := h H v Ext.refl w l
theorem Ans.mk_tup (h : Ans K xs H ad μ (.tuple ds) Q) (w : WOk K H ad xs μ) {vs : List V} (l : LyAll K (Im H ad xs) vs ds) {p : Addr} (hp : H p = none) : Q (.ref p) (upd H p (.tup vs)) := by
  obtain ⟨w2, e2, i2⟩ := w.new (o := .tup vs) hp
  exact h _ _ e2 w2 (.tup (SqT.of i2) (LyAll.grow e2.same l))
theorem Ans.mk_lst (h : Ans K xs H ad μ (.list ds) Q) (w : WOk K H ad xs μ) {vs : List V} (l : LyAll K (Im H ad xs) vs ds) {p : Addr} (hp : H p = none) : Q (.ref p) (upd H p (.lst vs)) := by
  obtain ⟨w2, e2, i2⟩ := w.new (o := .lst vs) hp
  exact h _ _ e2 w2 (.lst i2 (LyAll.grow e2.same l))
end
abbrev F2 := PyData → PyData → Option PyData
abbrev G2 := PyData → PyData → Option (List PyData)
/-- the rule r answers as f says -/
def R2Ok (K : PySem.W.Frag) (r : R2) (f : F2) : Prop := ∀ (H : Hp) (ad xs : List Addr) (μ : Store) (x y : V) (a b c : PyData) (Q : VK), WOk K H ad xs μ → Mo K H ad xs x a → Mo K H ad xs y b → f a b = some c → Ans K xs H ad μ c Q → r x y H Q
/-- .. makes a list -/
def R2New (K : PySem.W.Frag) (r : R2) (f : G2) : Prop := ∀ (H : Hp) (ad xs : List Addr) (μ : Store) (x y : V) (a b : PyData) (c : List PyData) (Q : VK), WOk K H ad xs μ → Mo K H ad xs x a → Mo K H ad xs y b → f a b = some c →
  (∀ p vs, H p = none → LyAll K (Im H ad xs) vs c → Q (.ref p) (upd H p (.lst vs))) → r x y H Q
def eOp2 (f : F2) (ea eb : EvE) : EvE := fun env μ => (ea env μ).bind fun p => (eb env p.2).bind fun q =>
  match deref q.2 p.1, deref q.2 q.1 with
  | some a, some b => match f a b with
    | some c => .ok (.pd c, q.2)
    | none => .stuck
  | _, _ => .stuck
def eNew2 (f : G2) (ea eb : EvE) : EvF := fun env μ => (ea env μ).bind fun p => (eb env p.2).bind fun q =>
  match deref q.2 p.1, deref q.2 q.1 with
  | some a, some b => match f a b with
    | some c => .ok (c, q.2)
    | none => .stuck
  | _, _ => .stuck
section
variable {X : Cx} {W : Wish} {a b : Expr} {ea eb : EvE} {pos : Pos} {r : R2} {f : F2} {g : G2}
theorem op2_core (hf : R2Ok X.K r f) {σ : L2.St} {H : Hp} {Q : VK} (h : tD X.K W (eOp2 f ea eb) σ H Q) : tOp r (tD X.K W ea) (tD X.K W eb) σ H Q := by
  obtain ⟨ad, xs, env, μ, sr, w, p⟩ := h
  refine ⟨ad, xs, env, μ, sr, w, p.bind.mono fun d1 H1 ad1 μ1 e1 w1 p1 v1 r1 => ?_⟩
  refine ⟨ad1, xs, env, μ1, sr.ext e1, w1, p1.bind.mono fun d2 H2 ad2 μ2 e2 w2 p2 v2 r2 => ?_⟩
  dsimp only at p2
  cases h1 : deref μ2 d1 with
  | none => rw [h1] at p2; exact p2.elim
  | some a =>
    cases h2 : deref μ2 d2 with
    | none => rw [h1, h2] at p2; exact p2.elim
    | some b =>
      rw [h1, h2] at p2
      dsimp only at p2
      cases h3 : f a b with
      | none => rw [h3] at p2; exact p2.elim
      | some c =>
        rw [h3] at p2
        exact hf H2 ad2 xs μ2 v1 v2 a b c Q w2 (w2.mo (r1.ext e2) h1) (w2.mo r2 h2) h3 fun H' v e w' l => p2.ok_at e w' v l
theorem new2_core (hf : R2New X.K r g) {σ : L2.St} {H : Hp} {Q : VK} (h : tDF X.K W (eNew2 g ea eb) σ H Q) : tOp r (tD X.K W ea) (tD X.K W eb) σ H Q := by
  obtain ⟨ad, xs, env, μ, sr, w, p⟩ := h
  refine ⟨ad, xs, env, μ, sr, w, p.bind.mono fun d1 H1 ad1 μ1 e1 w1 p1 v1 r1 => ?_⟩
  refine ⟨ad1, xs, env, μ1, sr.ext e1, w1, p1.bind.mono fun d2 H2 ad2 μ2 e2 w2 p2 v2 r2 => ?_⟩
  dsimp only at p2
  cases h1 : deref μ2 d1 with
  | none => rw [h1] at p2; exact p2.elim
  | some a =>
    cases h2 : deref μ2 d2 with
    | none => rw [h1, h2] at p2; exact p2.elim
    | some b =>
      rw [h1, h2] at p2
      dsimp only at p2
      cases h3 : g a b with
      | none => rw [h3] at p2; exact p2.elim
      | some c =>
        rw [h3] at p2
        exact hf H2 ad2 xs μ2 v1 v2 a b c Q w2 (w2.mo (r1.ext e2) h1) (w2.mo r2 h2) h3 fun p vs hp l => p2.ok w2 p vs hp l
theorem se_op2 {op : Operator} (ho : OpR X (binaryOp op) r) (hf : R2Ok X.K r f) (ha : SE X W a ea) (hb : SE X W b eb) : SE X W (.BinOp a op b pos) (eOp2 f ea eb) :=
  pe_imp (pe_op ho ha hb) fun _ _ _ h => op2_core hf h
theorem sf_op2 {op : Operator} (ho : OpR X (binaryOp op) r) (hf : R2New X.K r g) (ha : SE X W a ea) (hb : SE X W b eb) : SF X W (.BinOp a op b pos) (eNew2 g ea eb) :=
  pe_imp (pe_op ho ha hb) fun _ _ _ h => new2_core hf h
theorem se_cmp2 {op : CmpOp} (ho : OpR X (compareOp op) r) (hf : R2Ok X.K r f) (hm : behindInMarks op b = false) (ha : SE X W a ea) (hb : SE X W b eb) : SE X W (.Compare a [op] [b] pos) (eOp2 f ea eb) :=
  pe_imp (pe_cmpR ho ha hb hm) fun _ _ _ h => op2_core hf h
/-- a value that is a bool, as a test -/
def eTst (ev : EvE) : EvT := fun env μ => (ev env μ).bind fun p => match p.1 with
  | .pd (.bool b) => .ok (b, p.2)
  | _ => .stuck
theorem tst_core {ev : EvE} {σ : L2.St} {H : Hp} {Q : Bool → Hp → Prop} (h : tDT X.K W (eTst ev) σ H Q) : tD X.K W ev σ H fun x H' => ∃ k, x = .bl k ∧ Q k H' := by
  obtain ⟨ad, xs, env, μ, sr, w, p⟩ := h
  refine ⟨ad, xs, env, μ, sr, w, p.bind.mono fun d H1 ad1 μ1 e1 w1 q v r => ?_⟩
  dsimp only at q
  cases d with
  | pd d =>
    cases d with
    | bool b =>
      cases r
      exact ⟨b, rfl, q.ok w1⟩
    | _ => exact q.elim
  | _ => exact q.elim
theorem st_cmp2 {op : CmpOp} (ho : OpR X (compareOp op) r) (hf : R2Ok X.K r f) (hm : behindInMarks op b = false) (ha : SE X W a ea) (hb : SE X W b eb) : ST X W (.Compare a [op] [b] pos) (eTst (eOp2 f ea eb)) := by
  refine pt_imp (pt_cmpR ho ha hb hm) fun σ H Q h => ?_
  have h2 := tst_core h
  exact op2_core hf h2
/-- any expression but and, or, not, a comparison -/
theorem st_val {e : Expr} {ev : EvE} (he : SE X W e ev) (hw : ∀ whole, isTrue e X.env whole = (do let v ← whole; standAt e.pos; holding [v] (truthy v)) := by intro _; rfl) : ST X W e (eTst ev) :=
  pt_imp (pt_val he hw) fun _ _ _ h => tst_core h
end

/-! ### the operators -/
section
variable {X : Cx} {K : PySem.W.Frag}
theorem R2Ok.or {r r' : R2} {f f' : F2} (h : R2Ok K r f) (h' : R2Ok K r' f') : R2Ok K (fun x y H Q => r x y H Q ∨ r' x y H Q) (fun a b => (f a b).or (f' a b)) := fun H ad xs μ x y a b c Q w m n e q => by
  cases hf : f a b with
  | some d =>
    dsimp only at e
    rw [hf] at e
    exact .inl (h H ad xs μ x y a b c Q w m n (hf.trans e) q)
  | none =>
    dsimp only at e
    rw [hf] at e
    exact .inr (h' H ad xs μ x y a b c Q w m n e q)
/-- ints to a value without a place -/
def fI (g : Int → Int → PyData) : F2
  | .int i, .int j => some (g i j)
  | _, _ => none
theorem r2_I {gv : Int → Int → V} {g : Int → Int → PyData} (l : ∀ i j H, Ly K H (gv i j) (g i j)) : R2Ok K (rI0 gv) (fI g) := fun H ad xs μ x y a b c Q w m n e q => by
  unfold fI at e
  split at e
  · rename_i i j
    cases e
    exact ⟨i, j, m.int, n.int, q.same w (l _ _ _)⟩
  · cases e
def fIc (C : Int → Int → Prop) [∀ i j, Decidable (C i j)] (g : Int → Int → PyData) : F2
  | .int i, .int j => if C i j then some (g i j) else none
  | _, _ => none
theorem r2_Ic {C : Int → Int → Prop} [∀ i j, Decidable (C i j)] {gv : Int → Int → V} {g : Int → Int → PyData} (l : ∀ i j H, Ly K H (gv i j) (g i j)) : R2Ok K (rI C gv) (fIc C g) := fun H ad xs μ x y a b c Q w m n e q => by
  unfold fIc at e
  split at e
  · rename_i i j
    split at e
    · rename_i hc
      cases e
      exact ⟨i, j, m.int, n.int, hc, q.same w (l _ _ _)⟩
    · cases e
  · cases e
instance (i j : Int) : Decidable (CMulW i j) := inferInstanceAs (Decidable (_ < _))
instance (i j : Int) : Decidable (CDivW i j) := inferInstanceAs (Decidable (_ ∧ _))
instance (i j : Int) : Decidable (CPow i j) := inferInstanceAs (Decidable (_ ∧ _ ∧ _))
def fAddI : F2 := fI fun i j => .int (i + j)
def fSub : F2 := fI fun i j => .int (i - j)
def fMulI : F2 := fIc CMulW fun i j => .int (i * j)
def fDiv : F2 := fIc CDivW fun i j => .int (i / j)
def fMod : F2 := fIc (fun _ j => 0 < j) fun i j => .int (i % j)
def fPow : F2 := fIc CPow fun i j => .int (i ^ j.toNat)
/-- the sum of tuples; a list made of two -/
def fAddT : F2
  | .tuple xs, .tuple ys => if xs.length + ys.length ≤ sizeLine then some (.tuple (xs ++ ys)) else none
  | _, _ => none
def fAddS : F2
  | .str x, .str y => if x.length + y.length ≤ sizeLine then some (.str (x ++ y)) else none
  | _, _ => none
def gAdd : G2
  | .list xs, .list ys => if xs.length + ys.length ≤ sizeLine then some (xs ++ ys) else none
  | _, _ => none
def gMul : G2
  | .list xs, .int k => if -(2 ^ 63) ≤ k ∧ k < 2 ^ 63 ∧ xs.length * k.toNat ≤ sizeLine then some (List.replicate k.toNat xs).flatten else none
  | _, _ => none
theorem Mo.ly_tuple {H : Hp} {ad xs : List Addr} {v : V} {ds : List PyData} (h : Mo K H ad xs v (.tuple ds)) : Ly K (Im H ad xs) v (.tuple ds) := by
  rcases h with h | ⟨a, vs, es, rfl, e0, e, q⟩
  · exact h
  · cases e0
theorem r2_addT : R2Ok K (rCatA K) fAddT := fun H ad xs μ x y a b c Q w m n e q => by
  unfold fAddT at e
  split at e
  · rename_i as bs
    split at e
    · rename_i hz
      cases e
      have y1 := Mo.ly_tuple m
      have y2 := Mo.ly_tuple n
      obtain ⟨a1, v1, rfl, s1, l1⟩ := m.tuple
      obtain ⟨a2, v2, rfl, s2, l2⟩ := n.tuple
      have n1 := LyAll.length l1
      have n2 := LyAll.length l2
      refine ⟨a1, a2, v1, v2, rfl, rfl, s1, s2, by omega, fun h => ?_, fun _ h => ?_, fun _ _ p hp => q.mk_tup w (LyAll.append l1 l2) hp⟩
      · subst h
        have : as = [] := List.eq_nil_of_length_eq_zero n1.symm
        subst this
        exact q.same w y2
      · subst h
        have : bs = [] := List.eq_nil_of_length_eq_zero n2.symm
        subst this
        exact q.same w (by simpa using y1)
    · cases e
  · cases e
def rCatS : R2 := fun x y H Q => ∃ i j, x = .str i ∧ y = .str j ∧ i.length + j.length ≤ sizeLine ∧ Q (.str (i ++ j)) H
theorem r2_addS : R2Ok K rCatS fAddS := fun H ad xs μ x y a b c Q w m n e q => by
  unfold fAddS at e
  split at e
  · split at e
    · rename_i hz
      cases e
      exact ⟨_, _, m.str, n.str, hz, q.same w (.str _)⟩
    · cases e
  · cases e
def fAddL : F2 := fun a b => (gAdd a b).map .list
theorem r2_addL : R2Ok K rCat fAddL := fun H ad xs μ x y a b c Q w m n e q => by
  unfold fAddL gAdd at e
  split at e
  · split at e
    · rename_i hz
      cases e
      obtain ⟨a1, v1, rfl, s1, l1⟩ := m.list
      obtain ⟨a2, v2, rfl, s2, l2⟩ := n.list
      have n1 := LyAll.length l1
      have n2 := LyAll.length l2
      exact ⟨a1, a2, v1, v2, rfl, rfl, s1, s2, by omega, fun p hp => q.mk_lst w (LyAll.append l1 l2) hp⟩
    · cases e
  · cases e
theorem rn_addL : R2New K rCat gAdd := fun H ad xs μ x y a b c Q w m n e q => by
  unfold gAdd at e
  split at e
  · split at e
    · rename_i hz
      cases e
      obtain ⟨a1, v1, rfl, s1, l1⟩ := m.list
      obtain ⟨a2, v2, rfl, s2, l2⟩ := n.list
      have n1 := LyAll.length l1
      have n2 := LyAll.length l2
      exact ⟨a1, a2, v1, v2, rfl, rfl, s1, s2, by omega, fun p hp => q p _ hp (LyAll.append l1 l2)⟩
    · cases e
  · cases e
theorem LyAll.rep {H : Hp} {vs : List V} {ds : List PyData} (h : LyAll K H vs ds) : ∀ k : Nat, LyAll K H (List.replicate k vs).flatten (List.replicate k ds).flatten
  | 0 => by simpa using LyAll.nil
  | k + 1 => by
    rw [List.replicate_succ, List.replicate_succ, List.flatten_cons, List.flatten_cons]
    exact LyAll.append h (LyAll.rep h k)
theorem rn_mulL : R2New K rRep gMul := fun H ad xs μ x y a b c Q w m n e q => by
  unfold gMul at e
  split at e
  · split at e
    · rename_i hz
      cases e
      obtain ⟨a1, v1, rfl, s1, l1⟩ := m.list
      have n1 := LyAll.length l1
      exact ⟨a1, _, v1, rfl, n.int, s1, hz.1, hz.2.1, by rw [n1]; exact hz.2.2, fun p hp => q p _ hp (LyAll.rep l1 _)⟩
    · cases e
  · cases e
/-- + of ints, tuples, texts, lists -/
def fAdd : F2 := fun a b => (fAddI a b).or ((fAddT a b).or ((fAddS a b).or (fAddL a b)))
def rAdd4 (K : PySem.W.Frag) : R2 := fun x y H Q => rI0 (fun i j => .int (i + j)) x y H Q ∨ (rCatA K x y H Q ∨ (rCatS x y H Q ∨ rCat x y H Q))
theorem op_add4 : OpR X (binaryOp .Add) (rAdd4 X.K) := OpR.or op_add (OpR.or op_catA (OpR.or op_add_str op_cat))
theorem r2_add4 : R2Ok K (rAdd4 K) fAdd := R2Ok.or (r2_I fun _ _ _ => .int _) (R2Ok.or r2_addT (R2Ok.or r2_addS r2_addL))
/-- // and % as Python has them -/
def CDivZ (_ j : Int) : Prop := j ≠ 0 ∧ j.natAbs.log2 < 9000
instance (i j : Int) : Decidable (CDivZ i j) := inferInstanceAs (Decidable (_ ∧ _))
theorem op_fdivZ : OpR X (binaryOp .FloorDiv) (rI CDivZ fun i j => .int (i.fdiv j)) := opI fun _ _ _ _ _ _ _ hc q => floordiv_int hc.1 q (.inl (PyProof.noPylong_of_log2 hc.2))
def fDivZ : F2 := fIc CDivZ fun i j => .int (i.fdiv j)
def fModZ : F2 := fIc (fun _ j => j ≠ 0) fun i j => .int (i.fmod j)
end
section
variable {X : Cx} {W : Wish} {a b : Expr} {ea eb : EvE} {pos : Pos}
abbrev eAdd : EvE → EvE → EvE := eOp2 fAdd
abbrev eSub : EvE → EvE → EvE := eOp2 fSub
abbrev eMul : EvE → EvE → EvE := eOp2 fMulI
abbrev eDiv : EvE → EvE → EvE := eOp2 fDivZ
abbrev eMod : EvE → EvE → EvE := eOp2 fModZ
abbrev ePow : EvE → EvE → EvE := eOp2 fPow
theorem se_add (ha : SE X W a ea) (hb : SE X W b eb) : SE X W (.BinOp a .Add b pos) (eAdd ea eb) := se_op2 op_add4 r2_add4 ha hb
theorem se_sub (ha : SE X W a ea) (hb : SE X W b eb) : SE X W (.BinOp a .Sub b pos) (eSub ea eb) := se_op2 op_sub (r2_I fun _ _ _ => .int _) ha hb
theorem se_mul (ha : SE X W a ea) (hb : SE X W b eb) : SE X W (.BinOp a .Mult b pos) (eMul ea eb) := se_op2 op_mulW (r2_Ic fun _ _ _ => .int _) ha hb
theorem se_div (ha : SE X W a ea) (hb : SE X W b eb) : SE X W (.BinOp a .FloorDiv b pos) (eDiv ea eb) := se_op2 op_fdivZ (r2_Ic fun _ _ _ => .int _) ha hb
theorem se_mod (ha : SE X W a ea) (hb : SE X W b eb) : SE X W (.BinOp a .Mod b pos) (eMod ea eb) := se_op2 op_modN (r2_Ic fun _ _ _ => .int _) ha hb
theorem se_pow (ha : SE X W a ea) (hb : SE X W b eb) : SE X W (.BinOp a .Pow b pos) (ePow ea eb) := se_op2 op_pow (r2_Ic fun _ _ _ => .int _) ha hb
theorem sf_add (ha : SE X W a ea) (hb : SE X W b eb) : SF X W (.BinOp a .Add b pos) (eNew2 gAdd ea eb) := sf_op2 op_cat rn_addL ha hb
theorem sf_mul (ha : SE X W a ea) (hb : SE X W b eb) : SF X W (.BinOp a .Mult b pos) (eNew2 gMul ea eb) := sf_op2 op_rep rn_mulL ha hb
/-- comparisons of ints -/
def fLt : F2 := fI fun i j => .bool (decide (i < j))
def fLe : F2 := fI fun i j => .bool (decide (i ≤ j))
def fGt : F2 := fI fun i j => .bool (decide (j < i))
def fGe : F2 := fI fun i j => .bool (decide (j ≤ i))
theorem r2_lt {K : PySem.W.Frag} : R2Ok K (rI0 fun i j => .bl (decide (i < j))) fLt := r2_I fun _ _ _ => .bl _
theorem r2_le {K : PySem.W.Frag} : R2Ok K (rI0 fun i j => .bl (decide (i ≤ j))) fLe := r2_I fun _ _ _ => .bl _
theorem r2_gt {K : PySem.W.Frag} : R2Ok K (rI0 fun i j => .bl (decide (j < i))) fGt := r2_I fun _ _ _ => .bl _
theorem r2_ge {K : PySem.W.Frag} : R2Ok K (rI0 fun i j => .bl (decide (j ≤ i))) fGe := r2_I fun _ _ _ => .bl _
theorem se_lt (ha : SE X W a ea) (hb : SE X W b eb) : SE X W (.Compare a [.Lt] [b] pos) (eOp2 fLt ea eb) := se_cmp2 op_lt r2_lt (nomark _) ha hb
theorem se_le (ha : SE X W a ea) (hb : SE X W b eb) : SE X W (.Compare a [.LtE] [b] pos) (eOp2 fLe ea eb) := se_cmp2 op_le r2_le (nomark _) ha hb
theorem se_gt (ha : SE X W a ea) (hb : SE X W b eb) : SE X W (.Compare a [.Gt] [b] pos) (eOp2 fGt ea eb) := se_cmp2 op_gt r2_gt (nomark _) ha hb
theorem se_ge (ha : SE X W a ea) (hb : SE X W b eb) : SE X W (.Compare a [.GtE] [b] pos) (eOp2 fGe ea eb) := se_cmp2 op_ge r2_ge (nomark _) ha hb
theorem st_lt (ha : SE X W a ea) (hb : SE X W b eb) : ST X W (.Compare a [.Lt] [b] pos) (eTst (eOp2 fLt ea eb)) := st_cmp2 op_lt r2_lt (nomark _) ha hb
theorem st_le (ha : SE X W a ea) (hb : SE X W b eb) : ST X W (.Compare a [.LtE] [b] pos) (eTst (eOp2 fLe ea eb)) := st_cmp2 op_le r2_le (nomark _) ha hb
theorem st_gt (ha : SE X W a ea) (hb : SE X W b eb) : ST X W (.Compare a [.Gt] [b] pos) (eTst (eOp2 fGt ea eb)) := st_cmp2 op_gt r2_gt (nomark _) ha hb
theorem st_ge (ha : SE X W a ea) (hb : SE X W b eb) : ST X W (.Compare a [.GtE] [b] pos) (eTst (eOp2 fGe ea eb)) := st_cmp2 op_ge r2_ge (nomark _) ha hb
/-- == and != of data -/
def fEqD : F2 := fun a b => if SeqAt.shaped a = true ∧ SeqAt.shaped b = true then some (.bool (PyData.eqv a b)) else none
def fNeD : F2 := fun a b => if SeqAt.shaped a = true ∧ SeqAt.shaped b = true then some (.bool (!PyData.eqv a b)) else none
def fEqS : F2
  | .str x, .str y => some (.bool (decide (x = y)))
  | _, _ => none
def fNeS : F2
  | .str x, .str y => some (.bool (!decide (x = y)))
  | _, _ => none
def fEq : F2 := fun a b => (fEqS a b).or (fEqD a b)
def fNe : F2 := fun a b => (fNeS a b).or (fNeD a b)
theorem r2_eqS {K : PySem.W.Frag} : R2Ok K rEq fEqS := fun H ad xs μ x y a b c Q w m n e q => by
  unfold fEqS at e
  split at e
  · rename_i z u
    cases e
    rw [m.str, n.str]
    have ee : decide (V.str z = V.str u) = decide (z = u) := by
      by_cases h : z = u
      · subst h; simp
      · have : V.str z ≠ V.str u := fun k => h (V.str.inj k)
        simp [h]
    refine ⟨rfl, ?_⟩
    rw [ee]
    exact q.same w (.bl _)
  · cases e
theorem r2_neS {K : PySem.W.Frag} : R2Ok K rNe fNeS := fun H ad xs μ x y a b c Q w m n e q => by
  unfold fNeS at e
  split at e
  · rename_i z u
    cases e
    rw [m.str, n.str]
    have ee : decide (V.str z = V.str u) = decide (z = u) := by
      by_cases h : z = u
      · subst h; simp
      · have : V.str z ≠ V.str u := fun k => h (V.str.inj k)
        simp [h]
    refine ⟨rfl, ?_⟩
    rw [ee]
    exact q.same w (.bl _)
  · cases e
theorem r2_eqD {K : PySem.W.Frag} : R2Ok K (rEqD K) fEqD := fun H ad xs μ x y a b c Q w m n e q => by
  unfold fEqD at e
  split at e
  · rename_i h
    cases e
    exact ⟨a, b, m.dp, n.dp, h.1, h.2, q.same w (.bl _)⟩
  · cases e
theorem r2_neD {K : PySem.W.Frag} : R2Ok K (rNeD K) fNeD := fun H ad xs μ x y a b c Q w m n e q => by
  unfold fNeD at e
  split at e
  · rename_i h
    cases e
    exact ⟨a, b, m.dp, n.dp, h.1, h.2, q.same w (.bl _)⟩
  · cases e
def rEq2 (K : PySem.W.Frag) : R2 := fun x y H Q => rEq x y H Q ∨ rEqD K x y H Q
def rNe2 (K : PySem.W.Frag) : R2 := fun x y H Q => rNe x y H Q ∨ rNeD K x y H Q
theorem op_eq2 {X : Cx} (hu : X.A.units + 64 < cLine) : OpR X (compareOp .Eq) (rEq2 X.K) := OpR.or op_eq (op_eqD hu)
theorem op_ne2 {X : Cx} (hu : X.A.units + 64 < cLine) : OpR X (compareOp .NotEq) (rNe2 X.K) := OpR.or op_ne (op_neD hu)
theorem r2_eq {K : PySem.W.Frag} : R2Ok K (rEq2 K) fEq := R2Ok.or r2_eqS r2_eqD
theorem r2_ne {K : PySem.W.Frag} : R2Ok K (rNe2 K) fNe := R2Ok.or r2_neS r2_neD
theorem se_eq (hu : X.A.units + 64 < cLine) (ha : SE X W a ea) (hb : SE X W b eb) : SE X W (.Compare a [.Eq] [b] pos) (eOp2 fEq ea eb) := se_cmp2 (op_eq2 hu) r2_eq (nomark _) ha hb
theorem se_ne (hu : X.A.units + 64 < cLine) (ha : SE X W a ea) (hb : SE X W b eb) : SE X W (.Compare a [.NotEq] [b] pos) (eOp2 fNe ea eb) := se_cmp2 (op_ne2 hu) r2_ne (nomark _) ha hb
theorem st_eq (hu : X.A.units + 64 < cLine) (ha : SE X W a ea) (hb : SE X W b eb) : ST X W (.Compare a [.Eq] [b] pos) (eTst (eOp2 fEq ea eb)) := st_cmp2 (op_eq2 hu) r2_eq (nomark _) ha hb
theorem st_ne (hu : X.A.units + 64 < cLine) (ha : SE X W a ea) (hb : SE X W b eb) : ST X W (.Compare a [.NotEq] [b] pos) (eTst (eOp2 fNe ea eb)) := st_cmp2 (op_ne2 hu) r2_ne (nomark _) ha hb
end

/-! ### is None -/
def isNoneB : PyData → Bool
  | .none => true
  | _ => false
def eIsN (ea : EvE) : EvE := fun env μ => (ea env μ).bind fun p => match p.1 with
  | .pd d => .ok (.pd (.bool (isNoneB d)), p.2)
  | _ => .ok (.pd (.bool false), p.2)
def eNotN (ea : EvE) : EvE := fun env μ => (ea env μ).bind fun p => match p.1 with
  | .pd d => .ok (.pd (.bool (!isNoneB d)), p.2)
  | _ => .ok (.pd (.bool true), p.2)
theorem Ly.isNone {K : PySem.W.Frag} {H : Hp} {v : V} {d : PyData} (h : Ly K H v d) : decide (v = .non) = isNoneB d := by
  cases h <;> rfl
section
variable {X : Cx} {W : Wish} {a : Expr} {ea : EvE} {pos : Pos} {j : Nat} {pos' : Pos}
theorem isN_core {σ : L2.St} {H : Hp} {Q : VK} (h : tD X.K W (eIsN ea) σ H Q) : tIsN (tD X.K W ea) σ H Q := by
  obtain ⟨ad, xs, env, μ, sr, w, p⟩ := h
  refine ⟨ad, xs, env, μ, sr, w, p.bind.mono fun d H1 ad1 μ1 e1 w1 q v r => ?_⟩
  dsimp only at q
  cases d with
  | pd d =>
    have e := Ly.isNone r
    rw [e]
    exact q.ok w1 _ (.bl _)
  | ref l =>
    obtain ⟨a, _, rfl⟩ := r
    exact q.ok w1 _ (.bl _)
  | scr ns =>
    obtain ⟨a, rfl, _⟩ := r
    exact q.ok w1 _ (.bl _)
theorem notN_core {σ : L2.St} {H : Hp} {Q : VK} (h : tD X.K W (eNotN ea) σ H Q) : tNotN (tD X.K W ea) σ H Q := by
  obtain ⟨ad, xs, env, μ, sr, w, p⟩ := h
  refine ⟨ad, xs, env, μ, sr, w, p.bind.mono fun d H1 ad1 μ1 e1 w1 q v r => ?_⟩
  dsimp only at q
  cases d with
  | pd d =>
    have e := Ly.isNone r
    rw [e]
    exact q.ok w1 _ (.bl _)
  | ref l =>
    obtain ⟨a, _, rfl⟩ := r
    exact q.ok w1 _ (.bl _)
  | scr ns =>
    obtain ⟨a, rfl, _⟩ := r
    exact q.ok w1 _ (.bl _)
theorem se_isN (ha : SE X W a ea) : SE X W (.Compare a [.Is] [.Constant .none j pos'] pos) (eIsN ea) := pe_imp (pe_cmp (pc_isN ha)) fun _ _ _ h => isN_core h
theorem se_notN (ha : SE X W a ea) : SE X W (.Compare a [.IsNot] [.Constant .none j pos'] pos) (eNotN ea) := pe_imp (pe_cmp (pc_notN ha)) fun _ _ _ h => notN_core h
theorem st_isN (ha : SE X W a ea) : ST X W (.Compare a [.Is] [.Constant .none j pos'] pos) (eTst (eIsN ea)) := pt_imp (pt_cmp (pc_isN ha)) fun _ _ _ h => isN_core (tst_core h)
theorem st_notN (ha : SE X W a ea) : ST X W (.Compare a [.IsNot] [.Constant .none j pos'] pos) (eTst (eNotN ea)) := pt_imp (pt_cmp (pc_notN ha)) fun _ _ _ h => notN_core (tst_core h)
end

/-! ### and, or, not, if else -/
def eAndT (ea eb : EvT) : EvT := fun env μ => (ea env μ).bind fun p => if p.1 = true then eb env p.2 else .ok (false, p.2)
def eOrT (ea eb : EvT) : EvT := fun env μ => (ea env μ).bind fun p => if p.1 = true then .ok (true, p.2) else eb env p.2
def eNotT (ea : EvT) : EvT := fun env μ => (ea env μ).bind fun p => .ok (!p.1, p.2)
def eOfT (ea : EvT) : EvE := fun env μ => (ea env μ).bind fun p => .ok (.pd (.bool p.1), p.2)
def eIf (ec : EvT) (ea eb : EvE) : EvE := fun env μ => (ec env μ).bind fun p => if p.1 = true then ea env p.2 else eb env p.2
section
variable {X : Cx} {W : Wish} {a b c : Expr} {rest : List Expr} {ta tb : EvT} {ea eb : EvE} {pos : Pos}
theorem SW.st (h : SW X W a ta) : ST X W a ta := PW.pt h
theorem sw_and1 (ha : ST X W a ta) : SW X W (.BoolOp .And [a] pos) ta := pw_and1 ha
theorem sw_or1 (ha : ST X W a ta) : SW X W (.BoolOp .Or [a] pos) ta := pw_or1 ha
theorem sw_and (ha : ST X W a ta) (hb : SW X W (.BoolOp .And (b :: rest) pos) tb) : SW X W (.BoolOp .And (a :: b :: rest) pos) (eAndT ta tb) := by
  refine pw_imp (pw_and ha hb) fun σ H Q h => ?_
  obtain ⟨ad, xs, env, μ, sr, w, p⟩ := h
  refine ⟨ad, xs, env, μ, sr, w, p.bind.mono fun d H1 ad1 μ1 e1 w1 q => ?_⟩
  dsimp only at q
  cases d with
  | true => exact ⟨ad1, xs, env, μ1, sr.ext e1, w1, q⟩
  | false => exact q.ok w1
theorem sw_or (ha : ST X W a ta) (hb : SW X W (.BoolOp .Or (b :: rest) pos) tb) : SW X W (.BoolOp .Or (a :: b :: rest) pos) (eOrT ta tb) := by
  refine pw_imp (pw_or ha hb) fun σ H Q h => ?_
  obtain ⟨ad, xs, env, μ, sr, w, p⟩ := h
  refine ⟨ad, xs, env, μ, sr, w, p.bind.mono fun d H1 ad1 μ1 e1 w1 q => ?_⟩
  dsimp only at q
  cases d with
  | false => exact ⟨ad1, xs, env, μ1, sr.ext e1, w1, q⟩
  | true => exact q.ok w1
theorem st_not (ha : ST X W a ta) : ST X W (.UnaryOp .Not a pos) (eNotT ta) := by
  refine pt_imp (pt_not ha) fun σ H Q h => ?_
  obtain ⟨ad, xs, env, μ, sr, w, p⟩ := h
  exact ⟨ad, xs, env, μ, sr, w, p.bind.mono fun d H1 ad1 μ1 e1 w1 q => q.ok w1⟩
/-- .. as values: each part a bool -/
def eAndV (ea eb : EvE) : EvE := fun env μ => (ea env μ).bind fun p => match p.1 with
  | .pd (.bool b) => if b = true then eb env p.2 else .ok (.pd (.bool false), p.2)
  | _ => .stuck
def eOrV (ea eb : EvE) : EvE := fun env μ => (ea env μ).bind fun p => match p.1 with
  | .pd (.bool b) => if b = true then .ok (.pd (.bool true), p.2) else eb env p.2
  | _ => .stuck
def eNotV (ea : EvE) : EvE := fun env μ => (ea env μ).bind fun p => match p.1 with
  | .pd (.bool b) => .ok (.pd (.bool (!b)), p.2)
  | _ => .stuck
theorem se_one {op : BoolOp} (h : SE X W a ea) : SE X W (.BoolOp op [a] pos) ea := pe_one h
theorem se_and (ha : SE X W a ea) (hb : SE X W (.BoolOp .And (b :: rest) pos) eb) : SE X W (.BoolOp .And (a :: b :: rest) pos) (eAndV ea eb) := by
  refine pe_imp (pe_and ha hb) fun σ H Q h => ?_
  obtain ⟨ad, xs, env, μ, sr, w, p⟩ := h
  refine ⟨ad, xs, env, μ, sr, w, p.bind.mono fun d H1 ad1 μ1 e1 w1 q v r => ?_⟩
  dsimp only at q
  cases d with
  | pd d =>
    cases d with
    | bool k =>
      cases r
      refine ⟨k, rfl, ?_⟩
      cases k with
      | true => exact ⟨ad1, xs, env, μ1, sr.ext e1, w1, q⟩
      | false => exact q.ok w1 _ (.bl _)
    | _ => exact q.elim
  | _ => exact q.elim
theorem se_or (ha : SE X W a ea) (hb : SE X W (.BoolOp .Or (b :: rest) pos) eb) : SE X W (.BoolOp .Or (a :: b :: rest) pos) (eOrV ea eb) := by
  refine pe_imp (pe_or ha hb) fun σ H Q h => ?_
  obtain ⟨ad, xs, env, μ, sr, w, p⟩ := h
  refine ⟨ad, xs, env, μ, sr, w, p.bind.mono fun d H1 ad1 μ1 e1 w1 q v r => ?_⟩
  dsimp only at q
  cases d with
  | pd d =>
    cases d with
    | bool k =>
      cases r
      refine ⟨k, rfl, ?_⟩
      cases k with
      | false => exact ⟨ad1, xs, env, μ1, sr.ext e1, w1, q⟩
      | true => exact q.ok w1 _ (.bl _)
    | _ => exact q.elim
  | _ => exact q.elim
theorem se_not (ha : SE X W a ea) : SE X W (.UnaryOp .Not a pos) (eNotV ea) := by
  refine pe_imp (pe_not ha) fun σ H Q h => ?_
  obtain ⟨ad, xs, env, μ, sr, w, p⟩ := h
  refine ⟨ad, xs, env, μ, sr, w, p.bind.mono fun d H1 ad1 μ1 e1 w1 q v r => ?_⟩
  dsimp only at q
  cases d with
  | pd d =>
    cases d with
    | bool k =>
      cases r
      exact ⟨k, rfl, q.ok w1 _ (.bl _)⟩
    | _ => exact q.elim
  | _ => exact q.elim
theorem se_if (hc : ST X W c ta) (ha : SE X W a ea) (hb : SE X W b eb) : SE X W (.IfExp c a b pos) (eIf ta ea eb) := by
  refine pe_imp (pe_ifExp hc ha hb) fun σ H Q h => ?_
  obtain ⟨ad, xs, env, μ, sr, w, p⟩ := h
  refine ⟨ad, xs, env, μ, sr, w, p.bind.mono fun d H1 ad1 μ1 e1 w1 q => ?_⟩
  dsimp only at q
  cases d with
  | true => exact ⟨ad1, xs, env, μ1, sr.ext e1, w1, q⟩
  | false => exact ⟨ad1, xs, env, μ1, sr.ext e1, w1, q⟩
end
end Zd

set_option Elab.async false
set_option linter.all false
set_option maxRecDepth 100000
set_option maxHeartbeats 4000000
/-! More expressions: argument lists, displays, items, slices, built-in functions and methods. -/
namespace Zd
open PySem PySem.Spec PyProof.Rows L2

/-! ### minus -/
def eNeg (ea : EvE) : EvE := fun env μ => (ea env μ).bind fun p => match p.1 with
  | .pd (.int i) => .ok (.pd (.int (-i)), p.2)
  | _ => .stuck
section
variable {X : Cx} {W : Wish} {a b c : Expr} {ea eb ec : EvE} {pos : Pos}
theorem se_neg (ha : SE X W a ea) : SE X W (.UnaryOp .USub a pos) (eNeg ea) := by
  refine pe_imp (pe_un un_neg ha) fun σ H Q h => ?_
  obtain ⟨ad, xs, env, μ, sr, w, p⟩ := h
  refine ⟨ad, xs, env, μ, sr, w, p.bind.mono fun d H1 ad1 μ1 e1 w1 q v r => ?_⟩
  dsimp only at q
  cases d with
  | pd d =>
    cases d with
    | int i =>
      cases r
      exact ⟨i, rfl, q.ok w1 _ (.int _)⟩
    | _ => exact q.elim
  | _ => exact q.elim

/-! ### a < b < c of ints -/
def asI : D → Option Int
  | .pd (.int i) => some i
  | _ => none
theorem asI_rep {K : PySem.W.Frag} {H : Hp} {ad xs : List Addr} {d : D} {v : V} {i : Int} (e : asI d = some i) (r : Rep K H ad xs d v) : v = .int i := by
  unfold asI at e
  split at e
  · cases e; cases r; rfl
  · cases e
def eChain (f g : Int → Int → Bool) (ea eb ec : EvE) : EvT := fun env μ => (ea env μ).bind fun p => (eb env p.2).bind fun q => match asI p.1, asI q.1 with
  | some i, some j => if f i j = true then (ec env q.2).bind fun r => match asI r.1 with
    | some k => .ok (g j k, r.2)
    | none => .stuck
    else .ok (false, q.2)
  | _, _ => .stuck
theorem chain_core {f g : Int → Int → Bool} {σ : L2.St} {H : Hp} {Q : Bool → Hp → Prop} (h : tDT X.K W (eChain f g ea eb ec) σ H Q) :
    tChain (rI0 fun i j => .bl (f i j)) (rI0 fun i j => .bl (g i j)) (tD X.K W ea) (tD X.K W eb) (tD X.K W ec) σ H fun x H' => ∃ k, x = .bl k ∧ Q k H' := by
  obtain ⟨ad, xs, env, μ, sr, w, p⟩ := h
  refine ⟨ad, xs, env, μ, sr, w, p.bind.mono fun d H1 ad1 μ1 e1 w1 q v r => ?_⟩
  refine ⟨ad1, xs, env, μ1, sr.ext e1, w1, q.bind.mono fun d2 H2 ad2 μ2 e2 w2 q2 v2 r2 => ?_⟩
  dsimp only at q2
  cases hi : asI d with
  | none => rw [hi] at q2; exact q2.elim
  | some i =>
    cases hj : asI d2 with
    | none => rw [hi, hj] at q2; exact q2.elim
    | some j =>
      rw [hi, hj] at q2
      dsimp only at q2
      refine ⟨i, j, asI_rep hi r, asI_rep hj r2, f i j, rfl, ?_⟩
      cases hf : f i j with
      | false =>
        rw [hf] at q2
        simp only [Bool.false_eq_true, if_false] at q2 ⊢
        exact ⟨false, rfl, q2.ok w2⟩
      | true =>
        rw [hf] at q2
        simp only [if_true] at q2 ⊢
        refine ⟨ad2, xs, env, μ2, (sr.ext e1).ext e2, w2, q2.bind.mono fun d3 H3 ad3 μ3 e3 w3 q3 v3 r3 => ?_⟩
        dsimp only at q3
        cases hk : asI d3 with
        | none => rw [hk] at q3; exact q3.elim
        | some k =>
          rw [hk] at q3
          exact ⟨j, k, asI_rep hj r2, asI_rep hk r3, g j k, rfl, q3.ok w3⟩
def cLt (i j : Int) : Bool := decide (i < j)
def cLe (i j : Int) : Bool := decide (i ≤ j)
theorem st_chain {op op' : CmpOp} {f g : Int → Int → Bool} (ho : OpR X (compareOp op) (rI0 fun i j => .bl (f i j))) (ho' : OpR X (compareOp op') (rI0 fun i j => .bl (g i j))) (ha : SE X W a ea) (hb : SE X W b eb) (hc : SE X W c ec)
    (hm : lastMarks [op, op'] [b, c] = false := by with_unfolding_all rfl) : ST X W (.Compare a [op, op'] [b, c] pos) (eChain f g ea eb ec) := pt_imp (pt_chain ho ho' ha hb hc hm) fun _ _ _ h => chain_core h
theorem st_le_lt (ha : SE X W a ea) (hb : SE X W b eb) (hc : SE X W c ec) (hm : lastMarks [.LtE, .Lt] [b, c] = false := by with_unfolding_all rfl) : ST X W (.Compare a [.LtE, .Lt] [b, c] pos) (eChain cLe cLt ea eb ec) := st_chain op_le op_lt ha hb hc hm
theorem st_le_le (ha : SE X W a ea) (hb : SE X W b eb) (hc : SE X W c ec) (hm : lastMarks [.LtE, .LtE] [b, c] = false := by with_unfolding_all rfl) : ST X W (.Compare a [.LtE, .LtE] [b, c] pos) (eChain cLe cLe ea eb ec) := st_chain op_le op_le ha hb hc hm
theorem ofT_core {ta : EvT} {t : TE} (k : ∀ σ H Q, tDT X.K W ta σ H Q → t σ H fun x H' => ∃ k, x = .bl k ∧ Q k H') (m : ∀ σ H Q Q', (∀ v H', Q v H' → Q' v H') → t σ H Q → t σ H Q') {σ : L2.St} {H : Hp} {Q : VK} (h : tD X.K W (eOfT ta) σ H Q) : t σ H Q := by
  obtain ⟨ad, xs, env, μ, sr, w, p⟩ := h
  refine m _ _ _ _ ?_ (k σ H (fun b H' => Q (.bl b) H') ⟨ad, xs, env, μ, sr, w, p.bind.mono fun d H1 ad1 μ1 e1 w1 q => q.ok w1 _ (.bl _)⟩)
  rintro v H' ⟨k, rfl, q⟩
  exact q
theorem se_chain {op op' : CmpOp} {f g : Int → Int → Bool} (ho : OpR X (compareOp op) (rI0 fun i j => .bl (f i j))) (ho' : OpR X (compareOp op') (rI0 fun i j => .bl (g i j))) (ha : SE X W a ea) (hb : SE X W b eb) (hc : SE X W c ec)
    (hm : lastMarks [op, op'] [b, c] = false := by with_unfolding_all rfl) : SE X W (.Compare a [op, op'] [b, c] pos) (eOfT (eChain f g ea eb ec)) := by
  refine pe_imp (pe_chain ho ho' ha hb hc hm) fun σ H Q h => ?_
  obtain ⟨ad, xs, env, μ, sr, w, p⟩ := h
  have h2 := chain_core (X := X) (W := W) (f := f) (g := g) (ea := ea) (eb := eb) (ec := ec) (σ := σ) (H := H) (Q := fun b H' => Q (.bl b) H') ⟨ad, xs, env, μ, sr, w, p.bind.mono fun d H1 ad1 μ1 e1 w1 q => q.ok w1 _ (.bl _)⟩
  obtain ⟨ad', xs', env', μ', sr', w', p'⟩ := h2
  refine ⟨ad', xs', env', μ', sr', w', p'.mono fun d H1 ad1 μ1 e1 w1 q v r => ?_⟩
  obtain ⟨ad2, xs2, env2, μ2, sr2, w2, p2⟩ := q v r
  refine ⟨ad2, xs2, env2, μ2, sr2, w2, p2.mono fun d2 H2 ad2' μ2' e2 w2' q2 v2 r2 => ?_⟩
  obtain ⟨i, j, rfl, rfl, k, e, q3⟩ := q2 v2 r2
  refine ⟨i, j, rfl, rfl, k, e, ?_⟩
  cases k with
  | false =>
    simp only [Bool.false_eq_true, if_false] at q3 ⊢
    obtain ⟨k', e', q4⟩ := q3
    cases e'
    exact q4
  | true =>
    simp only [if_true] at q3 ⊢
    obtain ⟨ad3, xs3, env3, μ3, sr3, w3, p3⟩ := q3
    refine ⟨ad3, xs3, env3, μ3, sr3, w3, p3.mono fun d3 H3 ad3' μ3' e3 w3' q4 v3 r3 => ?_⟩
    obtain ⟨i', j', e6, rfl, k', e', q5⟩ := q4 v3 r3
    cases e6
    cases e'
    exact ⟨_, j', rfl, rfl, q5⟩
theorem se_le_lt (ha : SE X W a ea) (hb : SE X W b eb) (hc : SE X W c ec) (hm : lastMarks [.LtE, .Lt] [b, c] = false := by with_unfolding_all rfl) : SE X W (.Compare a [.LtE, .Lt] [b, c] pos) (eOfT (eChain cLe cLt ea eb ec)) := se_chain op_le op_lt ha hb hc hm
end

/-! ### argument lists, displays -/
def aNil : EvA := fun _ μ => .ok ([], μ)
def aCons (ev : EvE) (er : EvA) : EvA := fun env μ => (ev env μ).bind fun p => (er env p.2).bind fun q => .ok (p.1 :: q.1, q.2)
/-- all data -/
def pdAll : List D → Option (List PyData)
  | [] => some []
  | .pd d :: r => (pdAll r).map (d :: ·)
  | _ => none
@[simp] theorem pdAll_nil : pdAll [] = some [] := rfl
@[simp] theorem pdAll_cons (d : PyData) (r : List D) : pdAll (.pd d :: r) = (pdAll r).map (d :: ·) := rfl
theorem pdAll_rep {K : PySem.W.Frag} {H : Hp} {ad xs : List Addr} : ∀ {ds : List D} {ps : List PyData} {vs : List V}, pdAll ds = some ps → RepAll K H ad xs ds vs → LyAll K (Im H ad xs) vs ps
  | [], _, _, e, .nil => by cases e; exact .nil
  | .pd d :: r, ps, _, e, .cons h t => by
    simp only [pdAll_cons, Option.map_eq_some_iff] at e
    obtain ⟨qs, e1, rfl⟩ := e
    exact .cons h (pdAll_rep e1 t)
  | .ref _ :: _, _, _, e, _ => by cases e
  | .scr _ :: _, _, _, e, _ => by cases e
def eTup (ea : EvA) : EvE := fun env μ => (ea env μ).bind fun p => match pdAll p.1 with
  | some ps => if ps.length ≤ sizeLine then .ok (.pd (.tuple ps), p.2) else .stuck
  | none => .stuck
def eLst (ea : EvA) : EvF := fun env μ => (ea env μ).bind fun p => match pdAll p.1 with
  | some ps => if ps.length ≤ sizeLine then .ok (ps, p.2) else .stuck
  | none => .stuck
theorem RepAll.ext {K : PySem.W.Frag} {H H1 : Hp} {ad ad1 xs : List Addr} (e : Ext H ad xs H1 ad1) : ∀ {ds : List D} {vs : List V}, RepAll K H ad xs ds vs → RepAll K H1 ad1 xs ds vs
  | _, _, .nil => .nil
  | _, _, .cons h t => .cons (Rep.ext e h) (RepAll.ext e t)
theorem RepAll.length {K : PySem.W.Frag} {H : Hp} {ad xs : List Addr} {ds : List D} {vs : List V} (h : RepAll K H ad xs ds vs) : ds.length = vs.length := Paired.length h
section
variable {X : Cx} {W : Wish} {e : Expr} {es : List Expr} {ev : EvE} {er : EvA} {pos : Pos}
theorem sa_nil : SA X W [] aNil := pa_imp pa_nil fun σ H Q h => by
  obtain ⟨ad, xs, env, μ, sr, w, p⟩ := h
  exact p.ok w _ .nil
theorem sa_cons (he : SE X W e ev) (hr : SA X W es er) (hs : starEach (e :: es) X.env = (false, eval e X.env) :: starEach es X.env := by rfl) : SA X W (e :: es) (aCons ev er) := by
  refine pa_imp (pa_cons he hr hs) fun σ H Q h => ?_
  obtain ⟨ad, xs, env, μ, sr, w, p⟩ := h
  refine ⟨ad, xs, env, μ, sr, w, p.bind.mono fun d H1 ad1 μ1 e1 w1 q v r => ?_⟩
  exact ⟨ad1, xs, env, μ1, sr.ext e1, w1, q.bind.mono fun ds H2 ad2 μ2 e2 w2 q2 vs r2 => q2.ok w2 _ (.cons (r.ext e2) r2)⟩
theorem se_tup {k : Nat} (h : SA X W es er) : SE X W (.Tuple es k pos) (eTup er) := by
  refine pe_imp (pe_tup h) fun σ H Q h => ?_
  obtain ⟨ad, xs, env, μ, sr, w, p⟩ := h
  refine ⟨ad, xs, env, μ, sr, w, p.bind.mono fun ds H1 ad1 μ1 e1 w1 q vs r => ?_⟩
  dsimp only at q
  cases hp : pdAll ds with
  | none => rw [hp] at q; exact q.elim
  | some ps =>
    rw [hp] at q
    dsimp only at q
    split at q
    · rename_i hz
      have l := pdAll_rep hp r
      refine ⟨by rw [LyAll.length l]; exact hz, fun p hp => ?_⟩
      obtain ⟨w2, e2, i2⟩ := w1.new (o := .tup vs) hp
      exact q.ok_at e2 w2 _ (.tup (SqT.of i2) (LyAll.grow e2.same l))
    · exact q.elim
theorem sf_lst (h : SA X W es er) : SF X W (.List es pos) (eLst er) := by
  refine pe_imp (pe_lst h) fun σ H Q h => ?_
  obtain ⟨ad, xs, env, μ, sr, w, p⟩ := h
  refine ⟨ad, xs, env, μ, sr, w, p.bind.mono fun ds H1 ad1 μ1 e1 w1 q vs r => ?_⟩
  dsimp only at q
  cases hp : pdAll ds with
  | none => rw [hp] at q; exact q.elim
  | some ps =>
    rw [hp] at q
    dsimp only at q
    split at q
    · rename_i hz
      have l := pdAll_rep hp r
      exact ⟨by rw [LyAll.length l]; exact hz, fun p hp => q.ok w1 p vs hp l⟩
    · exact q.elim
end

/-! ### built-in functions by values -/
def derefs (μ : Store) : List D → Option (List PyData)
  | [] => some []
  | d :: r => match deref μ d with
    | some p => (derefs μ r).map (p :: ·)
    | none => none
abbrev MoAll (K : PySem.W.Frag) (H : Hp) (ad xs : List Addr) : List V → List PyData → Prop := Paired (Mo K H ad xs)
theorem derefs_mo {K : PySem.W.Frag} {H : Hp} {ad xs : List Addr} {μ : Store} (w : WOk K H ad xs μ) : ∀ {ds : List D} {ps : List PyData} {vs : List V}, derefs μ ds = some ps → RepAll K H ad xs ds vs → MoAll K H ad xs vs ps
  | [], _, _, e, .nil => by cases e; exact .nil
  | d :: r, ps, _, e, .cons h t => by
    unfold derefs at e
    cases hd : deref μ d with
    | none => rw [hd] at e; cases e
    | some p =>
      rw [hd] at e
      simp only [Option.map_eq_some_iff] at e
      obtain ⟨qs, e1, rfl⟩ := e
      exact .cons (w.mo h hd) (derefs_mo w e1 t)
abbrev FN := List PyData → Option PyData
abbrev GN := List PyData → Option (List PyData)
abbrev RN := List V → Hp → VK → Prop
def RnOk (K : PySem.W.Frag) (r : RN) (f : FN) : Prop := ∀ (H : Hp) (ad xs : List Addr) (μ : Store) (vs : List V) (ps : List PyData) (c : PyData) (Q : VK), WOk K H ad xs μ → MoAll K H ad xs vs ps → f ps = some c → Ans K xs H ad μ c Q → r vs H Q
def RnNew (K : PySem.W.Frag) (r : RN) (f : GN) : Prop := ∀ (H : Hp) (ad xs : List Addr) (μ : Store) (vs : List V) (ps c : List PyData) (Q : VK), WOk K H ad xs μ → MoAll K H ad xs vs ps → f ps = some c →
  (∀ p ws, H p = none → LyAll K (Im H ad xs) ws c → Q (.ref p) (upd H p (.lst ws))) → r vs H Q
def eCall (f : FN) (ea : EvA) : EvE := fun env μ => (ea env μ).bind fun p => match derefs p.2 p.1 with
  | some ps => match f ps with
    | some c => .ok (.pd c, p.2)
    | none => .stuck
  | none => .stuck
def eCallN (f : GN) (ea : EvA) : EvF := fun env μ => (ea env μ).bind fun p => match derefs p.2 p.1 with
  | some ps => match f ps with
    | some c => .ok (c, p.2)
    | none => .stuck
  | none => .stuck
section
variable {X : Cx} {W : Wish} {e : Expr} {es : List Expr} {er : EvA} {pos p : Pos} {x : Str} {id T : String} {r r' : RN} {f f' : FN} {g : GN}
theorem call_core (hf : RnOk X.K r f) {σ : L2.St} {H : Hp} {Q : VK} (h : tD X.K W (eCall f er) σ H Q) : tCB r (tDA X.K W er) σ H Q := by
  obtain ⟨ad, xs, env, μ, sr, w, p⟩ := h
  refine ⟨ad, xs, env, μ, sr, w, p.bind.mono fun ds H1 ad1 μ1 e1 w1 q vs r => ?_⟩
  dsimp only at q
  cases hp : derefs μ1 ds with
  | none => rw [hp] at q; exact q.elim
  | some ps =>
    rw [hp] at q
    dsimp only at q
    cases hc : f ps with
    | none => rw [hc] at q; exact q.elim
    | some c =>
      rw [hc] at q
      exact hf H1 ad1 xs μ1 vs ps c Q w1 (derefs_mo w1 hp r) hc fun H' v e w' l => q.ok_at e w' v l
theorem callN_core (hf : RnNew X.K r g) {σ : L2.St} {H : Hp} {Q : VK} (h : tDF X.K W (eCallN g er) σ H Q) : tCB r (tDA X.K W er) σ H Q := by
  obtain ⟨ad, xs, env, μ, sr, w, p⟩ := h
  refine ⟨ad, xs, env, μ, sr, w, p.bind.mono fun ds H1 ad1 μ1 e1 w1 q vs r => ?_⟩
  dsimp only at q
  cases hp : derefs μ1 ds with
  | none => rw [hp] at q; exact q.elim
  | some ps =>
    rw [hp] at q
    dsimp only at q
    cases hc : g ps with
    | none => rw [hc] at q; exact q.elim
    | some c =>
      rw [hc] at q
      exact hf H1 ad1 xs μ1 vs ps c Q w1 (derefs_mo w1 hp r) hc fun p ws hp l => q.ok w1 p ws hp l
theorem se_callB (hc : CallR X (.builtin id) r) (hf : RnOk X.K r f) (hg : Gl X x) (hm : X.mg x = none) (hv : bootBuiltins x = some (.builtin id)) (ha : SA X W (e :: es) er) (hn : x ≠ "__name__" := by decide) (hd : (x == ("__debug__" : Str)) = false := by decide)
    (he : starEach (e :: es) X.env = (false, eval e X.env) :: starEach es X.env := by rfl) (hpl : (backTo pos (starEach es X.env)).any (·.1) = false := by rfl) : SE X W (.Call (.Name x p) (e :: es) [] pos) (eCall f er) :=
  pe_imp (pe_callB hc hg hm hv ha hn hd he hpl) fun _ _ _ h => call_core hf h
theorem se_callTy (hc : CallR X (.type T) r) (hf : RnOk X.K r f) (hg : Gl X x) (hm : X.mg x = none) (hv : bootBuiltins x = some (.type T)) (ha : SA X W (e :: es) er) (hn : x ≠ "__name__" := by decide) (hd : (x == ("__debug__" : Str)) = false := by decide)
    (he : starEach (e :: es) X.env = (false, eval e X.env) :: starEach es X.env := by rfl) (hpl : (backTo pos (starEach es X.env)).any (·.1) = false := by rfl) : SE X W (.Call (.Name x p) (e :: es) [] pos) (eCall f er) :=
  pe_imp (pe_callTy hc hg hm hv ha hn hd he hpl) fun _ _ _ h => call_core hf h
theorem sf_callB (hc : CallR X (.builtin id) r) (hf : RnNew X.K r g) (hg : Gl X x) (hm : X.mg x = none) (hv : bootBuiltins x = some (.builtin id)) (ha : SA X W (e :: es) er) (hn : x ≠ "__name__" := by decide) (hd : (x == ("__debug__" : Str)) = false := by decide)
    (he : starEach (e :: es) X.env = (false, eval e X.env) :: starEach es X.env := by rfl) (hpl : (backTo pos (starEach es X.env)).any (·.1) = false := by rfl) : SF X W (.Call (.Name x p) (e :: es) [] pos) (eCallN g er) :=
  pe_imp (pe_callB hc hg hm hv ha hn hd he hpl) fun _ _ _ h => callN_core hf h
theorem sf_callTy (hc : CallR X (.type T) r) (hf : RnNew X.K r g) (hg : Gl X x) (hm : X.mg x = none) (hv : bootBuiltins x = some (.type T)) (ha : SA X W (e :: es) er) (hn : x ≠ "__name__" := by decide) (hd : (x == ("__debug__" : Str)) = false := by decide)
    (he : starEach (e :: es) X.env = (false, eval e X.env) :: starEach es X.env := by rfl) (hpl : (backTo pos (starEach es X.env)).any (·.1) = false := by rfl) : SF X W (.Call (.Name x p) (e :: es) [] pos) (eCallN g er) :=
  pe_imp (pe_callTy hc hg hm hv ha hn hd he hpl) fun _ _ _ h => callN_core hf h
theorem se_callG (hc : CallR X (.builtin id) r) (hf : RnOk X.K r f) (hg : Gl X x) (hm : X.mg x = some (.builtin id)) (ha : SA X W (e :: es) er) (hd : (x == ("__debug__" : Str)) = false := by decide)
    (he : starEach (e :: es) X.env = (false, eval e X.env) :: starEach es X.env := by rfl) (hpl : (backTo pos (starEach es X.env)).any (·.1) = false := by rfl) : SE X W (.Call (.Name x p) (e :: es) [] pos) (eCall f er) :=
  pe_imp (pe_callBfun hc hg hm ha hd he hpl) fun _ _ _ h => call_core hf h
theorem RnOk.or {K : PySem.W.Frag} (h : RnOk K r f) (h' : RnOk K r' f') : RnOk K (fun vs H Q => r vs H Q ∨ r' vs H Q) (fun ps => (f ps).or (f' ps)) := fun H ad xs μ vs ps c Q w m e q => by
  cases hf : f ps with
  | some d =>
    dsimp only at e
    rw [hf] at e
    exact .inl (h H ad xs μ vs ps c Q w m (hf.trans e) q)
  | none =>
    dsimp only at e
    rw [hf] at e
    exact .inr (h' H ad xs μ vs ps c Q w m e q)
end
section
variable {K : PySem.W.Frag} {H : Hp} {ad xs : List Addr}
theorem MoAll.one {vs : List V} {p : PyData} (h : MoAll K H ad xs vs [p]) : ∃ v, vs = [v] ∧ Mo K H ad xs v p := by
  cases h with
  | cons h t =>
    cases t
    exact ⟨_, rfl, h⟩
theorem MoAll.two {vs : List V} {p q : PyData} (h : MoAll K H ad xs vs [p, q]) : ∃ v w, vs = [v, w] ∧ Mo K H ad xs v p ∧ Mo K H ad xs w q := by
  cases h with
  | cons h t =>
    cases t with
    | cons h2 t2 =>
      cases t2
      exact ⟨_, _, rfl, h, h2⟩
/-- the ints of a list -/
def intsOf : List PyData → Option (List Int)
  | [] => some []
  | .int i :: r => (intsOf r).map (i :: ·)
  | _ => none
@[simp] theorem intsOf_map (ns : List Int) : intsOf (ns.map PyData.int) = some ns := by
  induction ns with
  | nil => rfl
  | cons n r ih => simp [intsOf, ih]
theorem intsOf_ly : ∀ {ds : List PyData} {ns : List Int} {vs : List V}, intsOf ds = some ns → LyAll K H vs ds → vs = ns.map V.int
  | [], _, _, e, .nil => by cases e; rfl
  | .int i :: r, ns, _, e, .cons h t => by
    simp only [intsOf, Option.map_eq_some_iff] at e
    obtain ⟨ms, e1, rfl⟩ := e
    cases h
    rw [intsOf_ly e1 t]
    rfl
  | .none :: _, _, _, e, _ => by cases e
  | .bool _ :: _, _, _, e, _ => by cases e
  | .str _ :: _, _, _, e, _ => by cases e
  | .list _ :: _, _, _, e, _ => by cases e
  | .tuple _ :: _, _, _, e, _ => by cases e
  | .dict _ :: _, _, _, e, _ => by cases e
def boolsOf : List PyData → Option (List Bool)
  | [] => some []
  | .bool i :: r => (boolsOf r).map (i :: ·)
  | _ => none
@[simp] theorem boolsOf_map (ns : List Bool) : boolsOf (ns.map PyData.bool) = some ns := by
  induction ns with
  | nil => rfl
  | cons n r ih => simp [boolsOf, ih]
theorem boolsOf_ly : ∀ {ds : List PyData} {ns : List Bool} {vs : List V}, boolsOf ds = some ns → LyAll K H vs ds → vs = ns.map V.bl
  | [], _, _, e, .nil => by cases e; rfl
  | .bool i :: r, ns, _, e, .cons h t => by
    simp only [boolsOf, Option.map_eq_some_iff] at e
    obtain ⟨ms, e1, rfl⟩ := e
    cases h
    rw [boolsOf_ly e1 t]
    rfl
  | .none :: _, _, _, e, _ => by cases e
  | .int _ :: _, _, _, e, _ => by cases e
  | .str _ :: _, _, _, e, _ => by cases e
  | .list _ :: _, _, _, e, _ => by cases e
  | .tuple _ :: _, _, _, e, _ => by cases e
  | .dict _ :: _, _, _, e, _ => by cases e
end
/-! ### which -/
def fLen : FN
  | [.list ds] => some (.int ds.length)
  | [.tuple ds] => some (.int ds.length)
  | _ => none
def fLenS : FN
  | [.str z] => if z.length ≤ sizeLine then some (.int z.length) else none
  | _ => none
def fAbs : FN
  | [.int i] => some (.int (if i < 0 then -i else i))
  | _ => none
def fInt : FN
  | [.int i] => some (.int i)
  | [.bool b] => some (.int (if b then 1 else 0))
  | _ => none
def fMax2 : FN
  | [.int i, .int j] => some (.int (if j > i then j else i))
  | _ => none
def fMin2 : FN
  | [.int i, .int j] => some (.int (if j < i then j else i))
  | _ => none
def fSum : FN
  | [.list ds] => (intsOf ds).map fun ns => .int ns.sum
  | _ => none
def fMaxL : FN
  | [.list ds] => (intsOf ds).bind fun ns => ns.max?.map .int
  | _ => none
def fMinL : FN
  | [.list ds] => (intsOf ds).bind fun ns => ns.min?.map .int
  | _ => none
def fAny : FN
  | [.list ds] => (boolsOf ds).map fun ns => .bool (ns.any id)
  | _ => none
def fAll : FN
  | [.list ds] => (boolsOf ds).map fun ns => .bool (ns.all id)
  | _ => none
def fTuple : FN
  | [.list ds] => some (.tuple ds)
  | [.tuple ds] => some (.tuple ds)
  | _ => none
def gList : GN
  | [.list ds] => some ds
  | [.tuple ds] => some ds
  | _ => none
def fGcd : FN
  | [.int i, .int j] => some (.int ((Nat.gcd i.natAbs j.natAbs : Nat) : Int))
  | _ => none
section
variable {X : Cx} {K : PySem.W.Frag}
def rLenQ (K : PySem.W.Frag) : RN := fun xs H Q => ∃ p ys, xs = [.ref p] ∧ (SqL K H p ys ∨ SqT K H p ys) ∧ Q (.int ys.length) H
theorem rn_len : RnOk K (rLenQ K) fLen := fun H ad xs μ vs ps c Q w m e q => by
  unfold fLen at e
  split at e
  · cases e
    obtain ⟨v, rfl, m1⟩ := m.one
    obtain ⟨a, ws, rfl, h, l⟩ := m1.list
    refine ⟨a, ws, rfl, .inl (SqL.of h), ?_⟩
    rw [LyAll.length l]
    exact q.same w (.int _)
  · cases e
    obtain ⟨v, rfl, m1⟩ := m.one
    obtain ⟨a, ws, rfl, h, l⟩ := m1.tuple
    refine ⟨a, ws, rfl, .inr h, ?_⟩
    rw [LyAll.length l]
    exact q.same w (.int _)
  · cases e
def rLenStr : RN := fun xs H Q => ∃ z : Str, xs = [.str z] ∧ z.length ≤ sizeLine ∧ Q (.int z.length) H
theorem rn_lenS : RnOk K rLenStr fLenS := fun H ad xs μ vs ps c Q w m e q => by
  unfold fLenS at e
  split at e
  · split at e
    · rename_i hz
      cases e
      obtain ⟨v, rfl, m1⟩ := m.one
      exact ⟨_, by rw [m1.str], hz, q.same w (.int _)⟩
    · cases e
  · cases e
def rAbs1 : RN := fun xs H Q => ∃ i, xs = [.int i] ∧ Q (.int (if i < 0 then -i else i)) H
theorem rn_abs : RnOk K rAbs1 fAbs := fun H ad xs μ vs ps c Q w m e q => by
  unfold fAbs at e
  split at e
  · cases e
    obtain ⟨v, rfl, m1⟩ := m.one
    exact ⟨_, by rw [m1.int], q.same w (.int _)⟩
  · cases e
def rInt1 : RN := fun xs H Q => (∃ i, xs = [.int i] ∧ Q (.int i) H) ∨ ∃ k, xs = [.bl k] ∧ Q (.int (if k then 1 else 0)) H
theorem rn_int : RnOk K rInt1 fInt := fun H ad xs μ vs ps c Q w m e q => by
  unfold fInt at e
  split at e
  · cases e
    obtain ⟨v, rfl, m1⟩ := m.one
    exact .inl ⟨_, by rw [m1.int], q.same w (.int _)⟩
  · cases e
    obtain ⟨v, rfl, m1⟩ := m.one
    exact .inr ⟨_, by rw [m1.bl], q.same w (.int _)⟩
  · cases e
def rMx2 : RN := fun xs H Q => ∃ i j, xs = [.int i, .int j] ∧ Q (.int (if j > i then j else i)) H
theorem rn_max2 : RnOk K rMx2 fMax2 := fun H ad xs μ vs ps c Q w m e q => by
  unfold fMax2 at e
  split at e
  · cases e
    obtain ⟨v, u, rfl, m1, n1⟩ := m.two
    exact ⟨_, _, by rw [m1.int, n1.int], q.same w (.int _)⟩
  · cases e
def rMn2 : RN := fun xs H Q => ∃ i j, xs = [.int i, .int j] ∧ Q (.int (if j < i then j else i)) H
theorem rn_min2 : RnOk K rMn2 fMin2 := fun H ad xs μ vs ps c Q w m e q => by
  unfold fMin2 at e
  split at e
  · cases e
    obtain ⟨v, u, rfl, m1, n1⟩ := m.two
    exact ⟨_, _, by rw [m1.int, n1.int], q.same w (.int _)⟩
  · cases e
theorem rn_gcd : RnOk K rGcd fGcd := fun H ad xs μ vs ps c Q w m e q => by
  unfold fGcd at e
  split at e
  · cases e
    obtain ⟨v, u, rfl, m1, n1⟩ := m.two
    exact ⟨_, _, by rw [m1.int, n1.int], q.same w (.int _)⟩
  · cases e
theorem rn_sum : RnOk K (rSum K) fSum := fun H ad xs μ vs ps c Q w m e q => by
  unfold fSum at e
  split at e
  · simp only [Option.map_eq_some_iff] at e
    obtain ⟨ns, e1, rfl⟩ := e
    obtain ⟨v, rfl, m1⟩ := m.one
    obtain ⟨a, ws, rfl, h, l⟩ := m1.list
    rw [intsOf_ly e1 l] at h
    exact ⟨a, ns, rfl, SqL.of h, q.same w (.int _)⟩
  · cases e
theorem rn_maxL : RnOk K (rMax K) fMaxL := fun H ad xs μ vs ps c Q w m e q => by
  unfold fMaxL at e
  split at e
  · simp only [Option.bind_eq_some_iff, Option.map_eq_some_iff] at e
    obtain ⟨ns, e1, k, e2, rfl⟩ := e
    obtain ⟨v, rfl, m1⟩ := m.one
    obtain ⟨a, ws, rfl, h, l⟩ := m1.list
    rw [intsOf_ly e1 l] at h
    obtain ⟨k1, k2⟩ := List.max?_eq_some_iff.mp e2
    refine ⟨a, ns, rfl, SqL.of h, List.length_pos_of_mem k1, fun z hz hall => ?_⟩
    have : z = k := Int.le_antisymm (k2 z hz) (hall k k1)
    subst this
    exact q.same w (.int _)
  · cases e
theorem rn_minL : RnOk K (rMin K) fMinL := fun H ad xs μ vs ps c Q w m e q => by
  unfold fMinL at e
  split at e
  · simp only [Option.bind_eq_some_iff, Option.map_eq_some_iff] at e
    obtain ⟨ns, e1, k, e2, rfl⟩ := e
    obtain ⟨v, rfl, m1⟩ := m.one
    obtain ⟨a, ws, rfl, h, l⟩ := m1.list
    rw [intsOf_ly e1 l] at h
    obtain ⟨k1, k2⟩ := List.min?_eq_some_iff.mp e2
    refine ⟨a, ns, rfl, SqL.of h, List.length_pos_of_mem k1, fun z hz hall => ?_⟩
    have : z = k := Int.le_antisymm (hall k k1) (k2 z hz)
    subst this
    exact q.same w (.int _)
  · cases e
theorem rn_any : RnOk K (rAny K) fAny := fun H ad xs μ vs ps c Q w m e q => by
  unfold fAny at e
  split at e
  · simp only [Option.map_eq_some_iff] at e
    obtain ⟨ns, e1, rfl⟩ := e
    obtain ⟨v, rfl, m1⟩ := m.one
    obtain ⟨a, ws, rfl, h, l⟩ := m1.list
    rw [boolsOf_ly e1 l] at h
    exact ⟨a, ns, rfl, SqL.of h, q.same w (.bl _)⟩
  · cases e
theorem rn_all : RnOk K (rAll K) fAll := fun H ad xs μ vs ps c Q w m e q => by
  unfold fAll at e
  split at e
  · simp only [Option.map_eq_some_iff] at e
    obtain ⟨ns, e1, rfl⟩ := e
    obtain ⟨v, rfl, m1⟩ := m.one
    obtain ⟨a, ws, rfl, h, l⟩ := m1.list
    rw [boolsOf_ly e1 l] at h
    exact ⟨a, ns, rfl, SqL.of h, q.same w (.bl _)⟩
  · cases e
def rTupOf (K : PySem.W.Frag) : RN := fun xs H Q => ∃ p ys, xs = [.ref p] ∧ ((SqL K H p ys ∧ ∀ l, H l = none → Q (.ref l) (upd H l (.tup ys))) ∨ (SqT K H p ys ∧ Q (.ref p) H))
theorem rn_tuple : RnOk K (rTupOf K) fTuple := fun H ad xs μ vs ps c Q w m e q => by
  unfold fTuple at e
  split at e
  · cases e
    obtain ⟨v, rfl, m1⟩ := m.one
    obtain ⟨a, ws, rfl, h, l⟩ := m1.list
    exact ⟨a, ws, rfl, .inl ⟨SqL.of h, fun p hp => q.mk_tup w l hp⟩⟩
  · cases e
    obtain ⟨v, rfl, m1⟩ := m.one
    have y := Mo.ly_tuple m1
    obtain ⟨a, ws, rfl, h, l⟩ := m1.tuple
    exact ⟨a, ws, rfl, .inr ⟨h, q.same w y⟩⟩
  · cases e
def rLstOf (K : PySem.W.Frag) : RN := fun xs H Q => ∃ p ys, xs = [.ref p] ∧ (SqL K H p ys ∨ SqT K H p ys) ∧ ∀ l, H l = none → Q (.ref l) (upd H l (.lst ys))
theorem rn_list : RnNew K (rLstOf K) gList := fun H ad xs μ vs ps c Q w m e q => by
  unfold gList at e
  split at e
  · cases e
    obtain ⟨v, rfl, m1⟩ := m.one
    obtain ⟨a, ws, rfl, h, l⟩ := m1.list
    exact ⟨a, ws, rfl, .inl (SqL.of h), fun p hp => q p ws hp l⟩
  · cases e
    obtain ⟨v, rfl, m1⟩ := m.one
    obtain ⟨a, ws, rfl, h, l⟩ := m1.tuple
    exact ⟨a, ws, rfl, .inr h, fun p hp => q p ws hp l⟩
  · cases e
end
end Zd

set_option Elab.async false
set_option linter.all false
set_option maxRecDepth 100000
set_option maxHeartbeats 4000000
/-! Items, slices, truth, in, isinstance, methods of lists and dicts. -/
namespace Zd
open PySem PySem.Spec PyProof.Rows L2

/-! ### x[i] -/
def fIx : F2
  | .list ds, .int i => atI ds i
  | .tuple ds, .int i => atI ds i
  | _, _ => none
theorem ly_at {K : PySem.W.Frag} {H : Hp} {vs : List V} {ds : List PyData} {i : Int} {d : PyData} (l : LyAll K H vs ds) (e : atI ds i = some d) : ∃ v, atI vs i = some v ∧ Ly K H v d := by
  unfold atI at e ⊢
  rw [LyAll.length l]
  cases h : ixN ds.length i with
  | none => rw [h] at e; cases e
  | some j =>
    rw [h] at e
    exact LyAll.get l e
/-- an item; of a list of places, a place -/
def eIx (ea eb : EvE) : EvE := fun env μ => (ea env μ).bind fun p => (eb env p.2).bind fun q =>
  match p.1, asI q.1 with
  | .ref l, some i => match q.2[l]? with
    | some (.lst ds) => match atI ds i with
      | some c => .ok (.pd c, q.2)
      | none => .stuck
    | some (.lls ls) => match atI ls i with
      | some k => .ok (.ref k, q.2)
      | none => .stuck
    | _ => .stuck
  | .pd d, some i => match fIx d (.int i) with
    | some c => .ok (.pd c, q.2)
    | none => .stuck
  | _, _ => .stuck
theorem map_at {α β : Type} (f : α → β) (l : List α) (i : Int) : atI (l.map f) i = (atI l i).map f := by
  unfold atI
  rw [List.length_map]
  cases ixN l.length i with
  | none => rfl
  | some j => simp
section
variable {X : Cx} {W : Wish} {a b : Expr} {ea eb : EvE} {pos : Pos}
theorem se_ix (ha : SE X W a ea) (hb : SE X W b eb) (hs : PlainIx b := by exact fun _ _ => rfl) : SE X W (.Subscript a b pos) (eIx ea eb) := by
  refine pe_imp (pe_ix ix_seq ha hb hs) fun σ H Q h => ?_
  obtain ⟨ad, xs, env, μ, sr, w, p⟩ := h
  refine ⟨ad, xs, env, μ, sr, w, p.bind.mono fun d1 H1 ad1 μ1 e1 w1 p1 v1 r1 => ?_⟩
  refine ⟨ad1, xs, env, μ1, sr.ext e1, w1, p1.bind.mono fun d2 H2 ad2 μ2 e2 w2 p2 v2 r2 => ?_⟩
  dsimp only at p2
  cases hi : asI d2 with
  | none => rw [hi] at p2; cases d1 <;> exact p2.elim
  | some i =>
    have ev2 := asI_rep hi r2
    subst ev2
    rw [hi] at p2
    cases d1 with
    | pd d =>
      dsimp only at p2
      cases d with
      | list ds =>
        cases hc : atI ds i with
        | none => simp only [fIx, hc] at p2; exact p2.elim
        | some c =>
          simp only [fIx, hc] at p2
          cases (r1.ext e2 : Rep X.K H2 ad2 xs (.pd (.list ds)) v1) with
          | lst h l =>
            obtain ⟨v, q1, q2⟩ := ly_at l hc
            exact .inl ⟨_, _, i, v, rfl, rfl, SqL.of (Im_le _ _ h), q1, p2.ok w2 _ q2⟩
      | tuple ds =>
        cases hc : atI ds i with
        | none => simp only [fIx, hc] at p2; exact p2.elim
        | some c =>
          simp only [fIx, hc] at p2
          cases (r1.ext e2 : Rep X.K H2 ad2 xs (.pd (.tuple ds)) v1) with
          | tup h l =>
            obtain ⟨v, q1, q2⟩ := ly_at l hc
            exact .inr (.inl ⟨_, _, i, v, rfl, rfl, SqT.grow Im_le h, q1, p2.ok w2 _ q2⟩)
      | _ => exact p2.elim
    | ref l =>
      dsimp only at p2
      obtain ⟨a1, g1, rfl⟩ := r1.ext e2
      cases hc : μ2[l]? with
      | none => rw [hc] at p2; exact p2.elim
      | some c =>
        have ck := w2.cell l a1 c g1 hc
        cases c with
        | lst ds =>
          cases hd : atI ds i with
          | none => simp only [hc, hd] at p2; exact p2.elim
          | some c =>
            simp only [hc, hd] at p2
            obtain ⟨vs, k1, k2⟩ := ck
            obtain ⟨v, q1, q2⟩ := ly_at k2 hd
            exact .inl ⟨_, _, i, v, rfl, rfl, SqL.of k1, q1, p2.ok w2 _ q2⟩
        | lls ls =>
          cases hd : atI ls i with
          | none => simp only [hc, hd] at p2; exact p2.elim
          | some k =>
            simp only [hc, hd] at p2
            obtain ⟨as, k1, k2⟩ := ck
            have e3 : (atI as i).map some = (atI ls i).map (fun l => ad2[l]?) := by rw [← map_at, ← map_at, k2]
            rw [hd] at e3
            cases ha : atI as i with
            | none => rw [ha] at e3; simp at e3
            | some b =>
              rw [ha] at e3
              simp only [Option.map_some, Option.some.injEq] at e3
              exact .inl ⟨_, _, i, .ref b, rfl, rfl, SqL.of k1, by rw [map_at, ha]; rfl, p2.ok w2 _ ⟨b, e3.symm, rfl⟩⟩
        | _ => rw [hc] at p2; exact p2.elim
    | scr ns => exact p2.elim
end

/-! ### x[lo:hi] -/
abbrev EvO := Env → Store → Out (Option Int × Store)
def tDO (K : PySem.W.Frag) (W : Wish) (ev : EvO) : TO := fun σ H Q => ∃ ad xs env μ, SRep K H ad xs σ env ∧ WOk K H ad xs μ ∧ Post K xs W H ad (ev env μ) fun o H' ad' _ => Q o H'
abbrev SO (X : Cx) (W : Wish) (e : Option Expr) (ev : EvO) : Prop := PO X e (tDO X.K W ev)
def oNone : EvO := fun _ μ => .ok (none, μ)
def oSome (ea : EvE) : EvO := fun env μ => (ea env μ).bind fun p => match asI p.1 with
  | some i => .ok (some i, p.2)
  | none => .stuck
section
variable {X : Cx} {W : Wish} {a e : Expr} {ea : EvE}
theorem po_imp {e : Option Expr} {t t' : TO} (h : PO X e t) (k : ∀ σ H Q, t' σ H Q → t σ H Q) : PO X e t' := ⟨fun pins s σ H Q I q => h.run pins s σ H Q I (k _ _ _ q)⟩
theorem so_none : SO X W none oNone := po_imp po_none fun σ H Q h => by
  obtain ⟨ad, xs, env, μ, sr, w, p⟩ := h
  exact p.ok w
theorem so_some (ha : SE X W a ea) : SO X W (some a) (oSome ea) := po_imp (po_some ha) fun σ H Q h => by
  obtain ⟨ad, xs, env, μ, sr, w, p⟩ := h
  refine ⟨ad, xs, env, μ, sr, w, p.bind.mono fun d H1 ad1 μ1 e1 w1 q v r => ?_⟩
  dsimp only at q
  cases hi : asI d with
  | none => rw [hi] at q; exact q.elim
  | some i =>
    rw [hi] at q
    exact ⟨i, asI_rep hi r, q.ok w1⟩
end
/-- a piece of a list -/
def cutD (ds : List PyData) (lo hi : Option Int) : List PyData := (ds.drop (HT.sIx ds.length 0 lo)).take (HT.sIx ds.length ds.length hi - HT.sIx ds.length 0 lo)
theorem cut_ly {K : PySem.W.Frag} {H : Hp} {vs : List V} {ds : List PyData} (l : LyAll K H vs ds) (lo hi : Option Int) : LyAll K H (cutV vs lo hi) (cutD ds lo hi) := by
  unfold cutV cutD
  rw [LyAll.length l]
  exact LyAll.take _ (LyAll.drop _ l)
def eSlL (ea : EvE) (el eh : EvO) : EvF := fun env μ => (ea env μ).bind fun p => (el env p.2).bind fun q => (eh env q.2).bind fun r =>
  match p.1 with
  | .scr ns => .ok (cutD (ns.map .int) q.1 r.1, r.2)
  | _ => match deref r.2 p.1 with
    | some (.list ds) => .ok (cutD ds q.1 r.1, r.2)
    | _ => .stuck
def eSlT (ea : EvE) (el eh : EvO) : EvE := fun env μ => (ea env μ).bind fun p => (el env p.2).bind fun q => (eh env q.2).bind fun r =>
  match p.1 with
  | .pd (.tuple ds) => .ok (.pd (.tuple (cutD ds q.1 r.1)), r.2)
  | _ => .stuck
theorem map_cut (ns : List Int) (lo hi : Option Int) : ∃ ms : List Int, cutV (ns.map V.int) lo hi = ms.map V.int ∧ cutD (ns.map PyData.int) lo hi = ms.map PyData.int := by
  refine ⟨(ns.drop (HT.sIx ns.length 0 lo)).take (HT.sIx ns.length ns.length hi - HT.sIx ns.length 0 lo), ?_, ?_⟩
  · unfold cutV
    rw [List.length_map, List.map_take, List.map_drop]
  · unfold cutD
    rw [List.length_map, List.map_take, List.map_drop]
section
variable {X : Cx} {W : Wish} {a : Expr} {lo hi : Option Expr} {ea : EvE} {el eh : EvO} {pos p2 : Pos}
theorem sf_sl (ha : SE X W a ea) (hl : SO X W lo el) (hh : SO X W hi eh) : SF X W (.Subscript a (.Slice lo hi none p2) pos) (eSlL ea el eh) := by
  refine pe_imp (pe_slice sl_list ha hl hh) fun σ H Q h => ?_
  obtain ⟨ad, xs, env, μ, sr, w, p⟩ := h
  refine ⟨ad, xs, env, μ, sr, w, p.bind.mono fun d1 H1 ad1 μ1 e1 w1 p1 v1 r1 => ?_⟩
  refine ⟨ad1, xs, env, μ1, sr.ext e1, w1, p1.bind.mono fun l H2 ad2 μ2 e2 w2 p2 => ?_⟩
  refine ⟨ad2, xs, env, μ2, (sr.ext e1).ext e2, w2, p2.bind.mono fun u H3 ad3 μ3 e3 w3 p3 => ?_⟩
  dsimp only at p3
  cases d1 with
  | scr ns =>
    obtain ⟨a1, rfl, s1⟩ := (r1.ext e2).ext e3
    refine ⟨a1, _, rfl, Same.seq Im_le s1, fun p hp => ?_⟩
    obtain ⟨ms, k1, k2⟩ := map_cut ns l u
    have q := p3.ok w3 p (cutV (ns.map V.int) l u) hp
    rw [k1, k2] at q
    rw [k1]
    exact q (LyAll.map_int ms)
  | pd d =>
    cases d with
    | list ds =>
      cases ((r1.ext e2).ext e3 : Rep X.K H3 ad3 xs (.pd (.list ds)) v1) with
      | lst h k => exact ⟨_, _, rfl, SqL.of (Im_le _ _ h), fun p hp => p3.ok w3 p _ hp (cut_ly k l u)⟩
    | _ => exact p3.elim
  | ref k =>
    obtain ⟨a1, g1, rfl⟩ := (r1.ext e2).ext e3
    cases hc : μ3[k]? with
    | none => simp only [deref, hc] at p3; exact p3.elim
    | some c =>
      cases c with
      | lst ds =>
        simp only [deref, hc] at p3
        obtain ⟨vs, k1, k2⟩ := w3.cell k a1 _ g1 hc
        exact ⟨_, _, rfl, SqL.of k1, fun p hp => p3.ok w3 p _ hp (cut_ly k2 l u)⟩
      | _ => simp only [deref, hc] at p3; exact p3.elim
theorem se_slT (ha : SE X W a ea) (hl : SO X W lo el) (hh : SO X W hi eh) : SE X W (.Subscript a (.Slice lo hi none p2) pos) (eSlT ea el eh) := by
  refine pe_imp (pe_slice sl_tupA ha hl hh) fun σ H Q h => ?_
  obtain ⟨ad, xs, env, μ, sr, w, p⟩ := h
  refine ⟨ad, xs, env, μ, sr, w, p.bind.mono fun d1 H1 ad1 μ1 e1 w1 p1 v1 r1 => ?_⟩
  refine ⟨ad1, xs, env, μ1, sr.ext e1, w1, p1.bind.mono fun l H2 ad2 μ2 e2 w2 p2 => ?_⟩
  refine ⟨ad2, xs, env, μ2, (sr.ext e1).ext e2, w2, p2.bind.mono fun u H3 ad3 μ3 e3 w3 p3 => ?_⟩
  dsimp only at p3
  cases d1 with
  | pd d =>
    cases d with
    | tuple ds =>
      have ly : Ly X.K (Im H3 ad3 xs) v1 (.tuple ds) := (r1.ext e2).ext e3
      cases ly with
      | tup h k =>
        rename_i a1 vs
        have n1 := LyAll.length k
        refine ⟨a1, vs, rfl, SqT.grow Im_le h, fun hw => ?_, fun hw p hp => ?_⟩
        · have e5 : cutD ds l u = ds := by
            unfold cutD
            rw [← n1, hw.1, hw.2, List.drop_zero, Nat.sub_zero, n1, List.take_length]
          have q5 : ∀ v, Rep X.K H3 ad3 xs (.pd (.tuple (cutD ds l u))) v → Q v H3 := p3.ok w3
          rw [e5] at q5
          exact q5 _ (.tup h k)
        · obtain ⟨w4, e4, i4⟩ := w3.new (o := .tup (cutV vs l u)) hp
          exact p3.ok_at e4 w4 _ (.tup (SqT.of i4) (LyAll.grow e4.same (cut_ly k l u)))
    | _ => exact p3.elim
  | _ => exact p3.elim
end

/-! ### truth -/
def truD (μ : Store) : D → Option Bool
  | .pd .none => some false
  | .pd (.bool b) => some b
  | .pd (.int i) => some (i != 0)
  | .pd (.list ds) => some (!ds.isEmpty)
  | .pd (.tuple ds) => some (!ds.isEmpty)
  | .ref l => match μ[l]? with
    | some (.lst ds) => some (!ds.isEmpty)
    | some (.lls ls) => some (!ls.isEmpty)
    | some (.dic kvs) => some (!kvs.isEmpty)
    | _ => none
  | _ => none
def eTru (ea : EvE) : EvT := fun env μ => (ea env μ).bind fun p => match truD p.2 p.1 with
  | some b => .ok (b, p.2)
  | none => .stuck
theorem isEmpty_len {α β : Type} {l : List α} {m : List β} (h : l.length = m.length) : l.isEmpty = m.isEmpty := by
  cases l <;> cases m <;> first | rfl | simp at h
theorem tru_rep {K : PySem.W.Frag} {H : Hp} {ad xs : List Addr} {μ : Store} (w : WOk K H ad xs μ) {d : D} {v : V} {b : Bool} (r : Rep K H ad xs d v) (e : truD μ d = some b) : TruV K v H b := by
  cases d with
  | pd d =>
    cases d with
    | none => cases r; cases e; rfl
    | bool k => cases r; cases e; rfl
    | int i => cases r; cases e; rfl
    | list ds =>
      cases e
      cases r with
      | lst h l => exact .inl ⟨_, SqL.of (Im_le _ _ h), by rw [isEmpty_len (LyAll.length l)]⟩
    | tuple ds =>
      cases e
      cases r with
      | tup h l => exact .inr (.inl ⟨_, SqT.grow Im_le h, by rw [isEmpty_len (LyAll.length l)]⟩)
    | _ => cases e
  | ref l =>
    obtain ⟨a, g, rfl⟩ := r
    cases hc : μ[l]? with
    | none => simp [truD, hc] at e
    | some c =>
      have ck := w.cell l a c g hc
      cases c with
      | lst ds =>
        simp only [truD, hc, Option.some.injEq] at e
        obtain ⟨vs, k1, k2⟩ := ck
        exact .inl ⟨_, SqL.of k1, by rw [isEmpty_len (LyAll.length k2)]; exact e.symm⟩
      | lls ls =>
        simp only [truD, hc, Option.some.injEq] at e
        obtain ⟨as, k1, k2⟩ := ck
        have hl : as.length = ls.length := by
          have := congrArg List.length k2
          simpa using this
        refine .inl ⟨_, SqL.of k1, ?_⟩
        rw [← e, isEmpty_len (show (as.map V.ref).length = ls.length by simpa using hl)]
      | dic kvs =>
        simp only [truD, hc, Option.some.injEq] at e
        obtain ⟨ws, k1, k2, _⟩ := ck
        have hl : ws.length = kvs.length := by
          have := congrArg List.length k2
          simpa using this
        exact .inr (.inr ⟨ws, k1, by rw [isEmpty_len hl]; exact e.symm⟩)
      | _ => simp [truD, hc] at e
  | scr ns => cases e
section
variable {X : Cx} {W : Wish} {a : Expr} {ea : EvE}
theorem st_tru (ha : SE X W a ea) (he : ∀ whole, isTrue a X.env whole = (do let v ← whole; standAt a.pos; holding [v] (truthy v)) := by intro _; rfl) : ST X W a (eTru ea) := by
  refine pt_imp (pt_truth ha he) fun σ H Q h => ?_
  obtain ⟨ad, xs, env, μ, sr, w, p⟩ := h
  refine ⟨ad, xs, env, μ, sr, w, p.bind.mono fun d H1 ad1 μ1 e1 w1 q v r => ?_⟩
  dsimp only at q
  cases hb : truD μ1 d with
  | none => rw [hb] at q; exact q.elim
  | some b =>
    rw [hb] at q
    exact ⟨b, tru_rep w1 r hb, q.ok w1⟩
end

/-! ### in, not in, of flat data in lists and tuples -/
/-- flat data: none, bools, ints, texts -/
def flatD : PyData → Bool
  | .none => true
  | .bool _ => true
  | .int _ => true
  | .str _ => true
  | _ => false
/-- == of flat data -/
def eqF : PyData → PyData → Bool
  | .none, .none => true
  | .bool a, .bool b => a == b
  | .bool a, .int b => (if a then 1 else 0) == b
  | .int a, .bool b => a == (if b then 1 else 0)
  | .int a, .int b => a == b
  | .str a, .str b => a == b
  | _, _ => false
def seqOf : PyData → Option (List PyData)
  | .list ds => some ds
  | .tuple ds => some ds
  | _ => none
def inD (a : PyData) (ds : List PyData) : Bool := ds.any fun y => eqF y a
def fIn : F2 := fun a b => match seqOf b with
  | some ds => if flatD a = true ∧ ds.all flatD = true then some (.bool (inD a ds)) else none
  | none => none
def fNotIn : F2 := fun a b => match seqOf b with
  | some ds => if flatD a = true ∧ ds.all flatD = true then some (.bool (!inD a ds)) else none
  | none => none
theorem ly_flat {K : PySem.W.Frag} {H : Hp} {v : V} {d : PyData} (l : Ly K H v d) (f : flatD d = true) : flatV v = true := by
  cases l <;> first | rfl | cases f
theorem ly_eqF {K : PySem.W.Frag} {H : Hp} {v u : V} {d e : PyData} (l : Ly K H v d) (m : Ly K H u e) (f : flatD d = true) (g : flatD e = true) : eqV v u = eqF d e := by
  cases l <;> cases m <;> first | rfl | exact absurd f (by simp [flatD]) | exact absurd g (by simp [flatD])
theorem ly_in {K : PySem.W.Frag} {H : Hp} {u : V} {e : PyData} (m : Ly K H u e) (g : flatD e = true) : ∀ {vs : List V} {ds : List PyData}, LyAll K H vs ds → ds.all flatD = true → vs.all flatV = true ∧ inV u vs = inD e ds
  | _, _, .nil, _ => ⟨rfl, rfl⟩
  | _, _, .cons h t, f => by
    rw [List.all_cons, Bool.and_eq_true] at f
    obtain ⟨h1, h2⟩ := ly_in m g t f.2
    refine ⟨by rw [List.all_cons, ly_flat h f.1, h1]; rfl, ?_⟩
    unfold inV inD at h2 ⊢
    rw [List.any_cons, List.any_cons, ly_eqF h m f.1 g, h2]
section
variable {X : Cx} {K : PySem.W.Frag}
theorem in_core {H : Hp} {ad xs : List Addr} {x y : V} {a b : PyData} {ds : List PyData} (m : Mo K H ad xs x a) (n : Mo K H ad xs y b) (hs : seqOf b = some ds) (h1 : flatD a = true) (h2 : ds.all flatD = true) :
    ∃ p vs, y = .ref p ∧ (SqL K H p vs ∨ SqT K H p vs) ∧ flatV x = true ∧ vs.all flatV = true ∧ inV x vs = inD a ds := by
  have lx : Ly K (Im H ad xs) x a := by
    rcases m with m | ⟨p, vs, es, rfl, rfl, _, _⟩
    · exact m
    · cases h1
  cases b with
  | list es =>
    cases hs
    obtain ⟨p, vs, rfl, e, l⟩ := n.list
    obtain ⟨k1, k2⟩ := ly_in lx h1 l h2
    exact ⟨p, vs, rfl, .inl (SqL.of e), ly_flat lx h1, k1, k2⟩
  | tuple es =>
    cases hs
    obtain ⟨p, vs, rfl, e, l⟩ := n.tuple
    obtain ⟨k1, k2⟩ := ly_in lx h1 l h2
    exact ⟨p, vs, rfl, .inr e, ly_flat lx h1, k1, k2⟩
  | _ => cases hs
theorem r2_in : R2Ok K (rIn K false) fIn := fun H ad xs μ x y a b c Q w m n e q => by
  unfold fIn at e
  split at e
  · rename_i ds hs
    split at e
    · rename_i h
      cases e
      obtain ⟨p, vs, k1, k2, k3, k4, k5⟩ := in_core m n hs h.1 h.2
      refine ⟨p, vs, k1, k2, k3, k4, ?_⟩
      rw [k5]
      exact q.same w (.bl _)
    · cases e
  · cases e
theorem r2_notIn : R2Ok K (rIn K true) fNotIn := fun H ad xs μ x y a b c Q w m n e q => by
  unfold fNotIn at e
  split at e
  · rename_i ds hs
    split at e
    · rename_i h
      cases e
      obtain ⟨p, vs, k1, k2, k3, k4, k5⟩ := in_core m n hs h.1 h.2
      refine ⟨p, vs, k1, k2, k3, k4, ?_⟩
      rw [k5]
      exact q.same w (.bl _)
    · cases e
  · cases e
variable {W : Wish} {a b : Expr} {ea eb : EvE} {pos : Pos}
theorem se_in (ha : SE X W a ea) (hb : SE X W b eb) (hm : behindInMarks .In b = false := by rfl) : SE X W (.Compare a [.In] [b] pos) (eOp2 fIn ea eb) := se_cmp2 op_in_seq r2_in hm ha hb
theorem se_notIn (ha : SE X W a ea) (hb : SE X W b eb) (hm : behindInMarks .NotIn b = false := by rfl) : SE X W (.Compare a [.NotIn] [b] pos) (eOp2 fNotIn ea eb) := se_cmp2 op_notIn_seq r2_notIn hm ha hb
theorem st_in (ha : SE X W a ea) (hb : SE X W b eb) (hm : behindInMarks .In b = false := by rfl) : ST X W (.Compare a [.In] [b] pos) (eTst (eOp2 fIn ea eb)) := st_cmp2 op_in_seq r2_in hm ha hb
theorem st_notIn (ha : SE X W a ea) (hb : SE X W b eb) (hm : behindInMarks .NotIn b = false := by rfl) : ST X W (.Compare a [.NotIn] [b] pos) (eTst (eOp2 fNotIn ea eb)) := st_cmp2 op_notIn_seq r2_notIn hm ha hb
end

/-! ### isinstance(x, T) -/
def tyNames : List String := ["NoneType", "bool", "int", "str", "list", "tuple", "dict"]
def isiB (a b : String) : Bool := a == b || (a == "bool" && b == "int")
theorem kit_all : ∀ a ∈ tyNames, ∀ b ∈ tyNames, kitB a b = some (isiB a b) := by decide +kernel
/-- the name of a value's type, by its index -/
def tyD : D → String
  | .pd .none => "NoneType"
  | .pd (.bool _) => "bool"
  | .pd (.int _) => "int"
  | .pd (.str _) => "str"
  | .pd (.list _) => "list"
  | .pd (.tuple _) => "tuple"
  | .pd (.dict _) => ""
  | .ref _ => ""
  | .scr _ => ""
/-- whether a value is of the type T -/
def isInst (T : String) : D → Option Bool
  | .pd .none => some false
  | .pd (.bool _) => some (T == "bool" || T == "int")
  | .pd (.int _) => some (T == "int")
  | .pd (.str _) => some (T == "str")
  | .pd (.list _) => some (T == "list")
  | .pd (.tuple _) => some (T == "tuple")
  | _ => none
def eIsi (T : String) (ea : EvE) : EvE := fun env μ => (ea env μ).bind fun p => match isInst T p.1 with
  | some b => .ok (.pd (.bool b), p.2)
  | none => .stuck
theorem isi_ly {K : PySem.W.Frag} {H : Hp} {ad xs : List Addr} {T : String} (hT : T ∈ ["bool", "int", "str", "list", "tuple", "dict"]) {d : D} {v : V} {b : Bool} (r : Rep K H ad xs d v) (e : isInst T d = some b) :
    ∃ t : String, TyX K H v (.type t) ∧ kitB t T = some b := by
  have hT' : T ∈ tyNames := List.mem_cons_of_mem _ hT
  have nn : (("NoneType" : String) == T) = false := by
    rw [beq_eq_false_iff_ne]
    rintro rfl
    revert hT; decide
  cases d with
  | pd d =>
    cases d with
    | none => cases e; cases r; exact ⟨_, .base .non, by rw [kit_all "NoneType" (by decide) T hT']; unfold isiB; rw [nn]; rfl⟩
    | bool k => cases e; cases r; exact ⟨_, .base (.bl _), by rw [kit_all "bool" (by decide) T hT']; unfold isiB; rw [Bool.beq_comm (a := T) (b := "bool"), show (("bool" : String) == "bool") = true from rfl, Bool.true_and]⟩
    | int i => cases e; cases r; exact ⟨_, .base (.int _), by rw [kit_all "int" (by decide) T hT']; unfold isiB; rw [show (("int" : String) == "bool") = false from rfl, Bool.false_and, Bool.or_false, Bool.beq_comm]⟩
    | str i => cases e; cases r; exact ⟨_, .base (.str _), by rw [kit_all "str" (by decide) T hT']; unfold isiB; rw [show (("str" : String) == "bool") = false from rfl, Bool.false_and, Bool.or_false, Bool.beq_comm]⟩
    | list ds =>
      cases e
      cases r with
      | lst h l => exact ⟨_, .base (.lst (Im_le _ _ h)), by rw [kit_all "list" (by decide) T hT']; unfold isiB; rw [show (("list" : String) == "bool") = false from rfl, Bool.false_and, Bool.or_false, Bool.beq_comm]⟩
    | tuple ds =>
      cases e
      have k : kitB "tuple" T = some (T == "tuple") := by rw [kit_all "tuple" (by decide) T hT']; unfold isiB; rw [show (("tuple" : String) == "bool") = false from rfl, Bool.false_and, Bool.or_false, Bool.beq_comm]
      cases r with
      | tup h l =>
        rcases SqT.grow Im_le h with (h | ⟨o, h⟩) | ⟨o, its, n, k1, k2, _⟩
        · exact ⟨_, .base (.tup h), k⟩
        · exact ⟨_, .fTuple h, k⟩
        · exact ⟨_, .kTuple k1 k2, k⟩
    | dict _ => cases e
  | ref l => cases e
  | scr ns => cases e
section
variable {X : Cx} {W : Wish} {a : Expr} {ea : EvE} {pos p q : Pos} {x : Str} {T : String}
theorem se_isi (hT : T ∈ ["bool", "int", "str", "list", "tuple", "dict"]) (hg : Gl X "isinstance") (hm : X.mg "isinstance" = none) (hv : bootBuiltins "isinstance" = some (.builtin "isinstance")) (hgT : Gl X x) (hmT : X.mg x = none) (hvT : bootBuiltins x = some (.type T)) (ha : SE X W a ea)
    (hn : x ≠ "__name__" := by decide) (hd : (x == ("__debug__" : Str)) = false := by decide)
    (he : starEach [a, .Name x q] X.env = (false, eval a X.env) :: starEach [.Name x q] X.env := by rfl) (hpl : (backTo pos (starEach [.Name x q] X.env)).any (·.1) = false := by rfl)
    (hs : starEach [a, .Name x q] X.env = (false, eval a X.env) :: starEach [.Name x q] X.env := by rfl) (hs2 : starEach [.Name x q] X.env = (false, eval (.Name x q) X.env) :: starEach [] X.env := by rfl) :
    SE X W (.Call (.Name "isinstance" p) [a, .Name x q] [] pos) (eIsi T ea) := by
  refine pe_imp (pe_callB call_isi hg hm hv (pa_cons ha (pa_cons (pe_bltn (v := .ty T) hgT hmT hvT rfl hn hd) pa_nil hs2) hs) (by decide) (by decide) he hpl) fun σ H Q h => ?_
  obtain ⟨ad, xs, env, μ, sr, w, p⟩ := h
  refine ⟨ad, xs, env, μ, sr, w, p.bind.mono fun d H1 ad1 μ1 e1 w1 q v r => ?_⟩
  dsimp only at q
  cases hb : isInst T d with
  | none => rw [hb] at q; exact q.elim
  | some b =>
    rw [hb] at q
    obtain ⟨t, k1, k2⟩ := isi_ly hT r hb
    exact ⟨v, .ty T, .type t, .type T, b, rfl, .ty T, k1, kit_ty k2, q.ok w1 _ (.bl b)⟩
end

/-! ### methods of lists that may change -/
/-- how a method changes a list: its items, the arguments: the answer, the items then -/
abbrev FM := List PyData → List PyData → Option (PyData × List PyData)
abbrev RM := V → List V → Hp → VK → Prop
def MOk (K : PySem.W.Frag) (r : RM) (f : FM) : Prop := ∀ (H I : Hp) (a : Addr) (vs ws : List V) (ds ps : List PyData) (c : PyData) (es : List PyData) (Q : VK), H a = some (.lst vs) → Same I H → LyAll K I vs ds → LyAll K I ws ps → f ds ps = some (c, es) →
  (∀ v us, LyAll K I us es → Ly K I v c → Q v (upd H a (.lst us))) → r (.ref a) ws H Q
def eMeth (f : FM) (eo : EvE) (ea : EvA) : EvE := fun env μ => (eo env μ).bind fun p => match p.1 with
  | .ref l => match p.2[l]? with
    | some (.lst _) => (ea env p.2).bind fun q => match q.2[l]?, pdAll q.1 with
      | some (.lst ds), some ps => match f ds ps with
        | some (c, es) => .ok (.pd c, q.2.set l (.lst es))
        | none => .stuck
      | _, _ => .stuck
    | _ => .stuck
  | _ => .stuck
section
variable {X : Cx} {W : Wish} {o e : Expr} {es : List Expr} {eo : EvE} {ea : EvA} {apos cpos : Pos} {r : RM} {f : FM} {name : Str} {id : String}
theorem meth_core (hf : MOk X.K r f) {σ : L2.St} {H : Hp} {Q : VK} (h : tD X.K W (eMeth f eo ea) σ H Q) : tBM X.K "list" r (tD X.K W eo) (tDA X.K W ea) σ H Q := by
  obtain ⟨ad, xs, env, μ, sr, w, p⟩ := h
  refine ⟨ad, xs, env, μ, sr, w, p.bind.mono fun d H1 ad1 μ1 e1 w1 q v r => ?_⟩
  dsimp only at q
  cases d with
  | ref l =>
    dsimp only at q
    obtain ⟨a, g, rfl⟩ := r
    cases hc : μ1[l]? with
    | none => rw [hc] at q; exact q.elim
    | some c =>
      cases c with
      | lst ds0 =>
        rw [hc] at q
        dsimp only at q
        obtain ⟨vs0, k1, _⟩ := w1.cell l a _ g hc
        refine ⟨.inl ⟨rfl, vs0, SqL.of k1⟩, ad1, xs, env, μ1, sr.ext e1, w1, q.bind.mono fun as H2 ad2 μ2 e2 w2 q2 ws rs => ?_⟩
        dsimp only at q2
        cases hc2 : μ2[l]? with
        | none => rw [hc2] at q2; exact q2.elim
        | some c2 =>
          cases c2 with
          | lst ds =>
            rw [hc2] at q2
            cases hp : pdAll as with
            | none => rw [hp] at q2; exact q2.elim
            | some ps =>
              rw [hp] at q2
              dsimp only at q2
              cases hr : f ds ps with
              | none => rw [hr] at q2; exact q2.elim
              | some ce =>
                obtain ⟨c3, es3⟩ := ce
                rw [hr] at q2
                dsimp only at q2
                have g2 := e2.get g
                obtain ⟨vs, k2, k3⟩ := w2.cell l a _ g2 hc2
                refine hf H2 (Im H2 ad2 xs) a vs ws ds ps c3 es3 Q k2 Im_le k3 (pdAll_rep hp rs) hr fun v us lu lv => ?_
                have em : Im (upd H2 a (.lst us)) ad2 xs = Im H2 ad2 xs := by
                  funext b
                  unfold Im upd
                  by_cases eb : b = a
                  · subst eb; simp [List.mem_of_getElem? g2]
                  · simp [eb]
                obtain ⟨w3, e3⟩ := w2.write (o := .lst us) (c := .lst es3) g2 ⟨us, upd_same, by rw [em]; exact lu⟩
                exact q2.ok_at e3 w3 v (Ly.grow e3.same lv)
          | _ => rw [hc2] at q2; exact q2.elim
      | _ => rw [hc] at q; exact q.elim
  | _ => exact q.elim
theorem meth0_core (hf : MOk X.K r f) {σ : L2.St} {H : Hp} {Q : VK} (h : tD X.K W (eMeth f eo aNil) σ H Q) : tBM0 X.K "list" r (tD X.K W eo) σ H Q := by
  have h2 := meth_core (ea := aNil) hf h
  obtain ⟨ad, xs, env, μ, sr, w, p⟩ := h2
  refine ⟨ad, xs, env, μ, sr, w, p.mono fun d H1 ad1 μ1 e1 w1 q v r => ?_⟩
  obtain ⟨q1, ad2, xs2, env2, μ2, sr2, w2, q2⟩ := q v r
  exact ⟨q1, q2.ok w2 [] .nil⟩
theorem se_meth (slot : Slot "list" name id) (hty : typeOf (.builtin id) = pure (.type "method_descriptor")) (hm : MtR X id r) (hf : MOk X.K r f) (ho : SE X W o eo) (ha : SA X W (e :: es) ea)
    (hbase : attributeBase o name X.env (eval o X.env) = eval o X.env := by rfl)
    (hfew : ((backTo cpos (starEach (e :: es) X.env)).all (fun x => !x.1) && (backToKw cpos (keywordEach [] X.env)).all (fun x => x.1.isSome)
      && decide ((e :: es).length + ([] : List Keyword).length + (if ([] : List Keyword).isEmpty then 0 else 1) < 30)) = true := by rfl)
    (hline : (apos.endLine == cpos.line) = true := by rfl) (hs : starEach (e :: es) X.env = (false, eval e X.env) :: starEach es X.env := by rfl) (hplain : (backTo cpos (starEach es X.env)).any (·.1) = false := by rfl) :
    SE X W (.Call (.Attribute o name apos) (e :: es) [] cpos) (eMeth f eo ea) := pe_imp (pe_bm PySem.F.plainAttrs_list slot hty hm ho ha hbase hfew hline hs hplain) fun _ _ _ h => meth_core hf h
theorem se_meth0 (slot : Slot "list" name id) (hty : typeOf (.builtin id) = pure (.type "method_descriptor")) (hm : MtR X id r) (hf : MOk X.K r f) (ho : SE X W o eo)
    (hbase : attributeBase o name X.env (eval o X.env) = eval o X.env := by rfl) (hline : (apos.endLine == cpos.line) = true := by rfl) :
    SE X W (.Call (.Attribute o name apos) [] [] cpos) (eMeth f eo aNil) := pe_imp (pe_bm0 PySem.F.plainAttrs_list slot hty hm ho hbase hline) fun _ _ _ h => meth0_core hf h
end
def mAppend : FM
  | ds, [p] => if ds.length < sizeLine then some (.none, ds ++ [p]) else none
  | _, _ => none
def mPop : FM
  | ds, [] => ds.getLast?.map fun d => (d, ds.dropLast)
  | _, _ => none
def mPopAt : FM
  | ds, [.int i] => if -(2 ^ 63) ≤ i ∧ i < 2 ^ 63 then (seqIndex? i ds.length).bind fun k => ds[k]?.map fun d => (d, ds.eraseIdx k) else none
  | _, _ => none
/-- the place of an insertion -/
def mInsert : FM
  | ds, [.int i, p] => if ds.length < sizeLine ∧ 0 ≤ i ∧ i ≤ ds.length then some (.none, ds.take i.toNat ++ p :: ds.drop i.toNat) else none
  | _, _ => none
/-- the first place -/
def idxF (p : PyData) : List PyData → Option Nat
  | [] => none
  | d :: r => if eqF d p = true then some 0 else (idxF p r).map (· + 1)
def mIndex : FM
  | ds, [p] => if flatD p = true ∧ ds.all flatD = true then (idxF p ds).map fun (j : Nat) => ((.int (j : Int) : PyData), ds) else none
  | _, _ => none
section
variable {X : Cx} {K : PySem.W.Frag}
theorem LyAll.one {K : PySem.W.Frag} {H : Hp} {ws : List V} {p : PyData} (h : LyAll K H ws [p]) : ∃ v, ws = [v] ∧ Ly K H v p := by
  cases h with
  | cons h t => cases t; exact ⟨_, rfl, h⟩
theorem LyAll.two {K : PySem.W.Frag} {H : Hp} {ws : List V} {p q : PyData} (h : LyAll K H ws [p, q]) : ∃ v u, ws = [v, u] ∧ Ly K H v p ∧ Ly K H u q := by
  cases h with
  | cons h t =>
    cases t with
    | cons h2 t2 => cases t2; exact ⟨_, _, rfl, h, h2⟩
theorem LyAll.zero {K : PySem.W.Frag} {H : Hp} {ws : List V} (h : LyAll K H ws []) : ws = [] := by cases h; rfl
theorem mo_append : MOk K rAppend mAppend := fun H I a vs ws ds ps c es Q ha si lv lw e q => by
  unfold mAppend at e
  split at e
  · split at e
    · rename_i hz
      cases e
      obtain ⟨v, rfl, l⟩ := LyAll.one lw
      exact ⟨a, vs, v, rfl, rfl, ha, by rw [LyAll.length lv]; exact hz, q _ _ (LyAll.append lv (.cons l .nil)) .non⟩
    · cases e
  · cases e
theorem mo_pop : MOk K rPop mPop := fun H I a vs ws ds ps c es Q ha si lv lw e q => by
  unfold mPop at e
  split at e
  · simp only [Option.map_eq_some_iff] at e
    obtain ⟨d, e1, e2⟩ := e
    cases e2
    cases LyAll.zero lw
    rw [List.getLast?_eq_getElem?] at e1
    obtain ⟨v, h1, h2⟩ := LyAll.get lv e1
    have hl := LyAll.length lv
    refine ⟨a, vs, v, rfl, rfl, ha, by rw [hl]; exact h1, q _ _ ?_ h2⟩
    rw [List.dropLast_eq_take, List.dropLast_eq_take, hl]
    exact LyAll.take _ lv
  · cases e
theorem mo_popAt : MOk K rPopAt mPopAt := fun H I a vs ws ds ps c es Q ha si lv lw e q => by
  unfold mPopAt at e
  split at e
  · split at e
    · rename_i i hz
      simp only [Option.bind_eq_some_iff, Option.map_eq_some_iff] at e
      obtain ⟨k, e0, d, e1, e2⟩ := e
      cases e2
      obtain ⟨v, rfl, l⟩ := LyAll.one lw
      cases l
      obtain ⟨v, h1, h2⟩ := LyAll.get lv e1
      have hl := LyAll.length lv
      exact ⟨a, vs, i, k, v, rfl, rfl, ha, hz.1, hz.2, by rw [hl]; exact e0, h1, q _ _ (LyAll.eraseIdx k lv) h2⟩
    · cases e
  · cases e
theorem idx_ly {K : PySem.W.Frag} {H : Hp} {u : V} {p : PyData} (m : Ly K H u p) (g : flatD p = true) : ∀ {vs : List V} {ds : List PyData} {j : Nat}, LyAll K H vs ds → ds.all flatD = true → idxF p ds = some j →
    ∃ z, vs[j]? = some z ∧ eqV z u = true ∧ ∀ (m : Nat) (z' : V), m < j → vs[m]? = some z' → eqV z' u = false
  | _, _, _, .nil, _, e => by cases e
  | v :: vs, d :: ds, j, .cons h t, f, e => by
    rw [List.all_cons, Bool.and_eq_true] at f
    unfold idxF at e
    have he := ly_eqF h m f.1 g
    split at e
    · rename_i h1
      cases e
      exact ⟨v, rfl, by rw [he]; exact h1, fun m z' hm _ => absurd hm (Nat.not_lt_zero m)⟩
    · rename_i h1
      simp only [Option.map_eq_some_iff] at e
      obtain ⟨k, e1, rfl⟩ := e
      obtain ⟨z, k1, k2, k3⟩ := idx_ly m g t f.2 e1
      refine ⟨z, by simpa using k1, k2, fun m' z' hm hz => ?_⟩
      cases m' with
      | zero =>
        simp at hz
        subst hz
        rw [he]
        exact Bool.eq_false_iff.mpr h1
      | succ m' => exact k3 m' z' (by omega) (by simpa using hz)
theorem mo_index : MOk K (rIndex K) mIndex := fun H I a vs ws ds ps c es Q ha si lv lw e q => by
  unfold mIndex at e
  split at e
  · split at e
    · rename_i p hz
      simp only [Option.map_eq_some_iff] at e
      obtain ⟨j, e1, e2⟩ := e
      cases e2
      obtain ⟨v, rfl, l⟩ := LyAll.one lw
      obtain ⟨z, k1, k2, k3⟩ := idx_ly l hz.1 lv hz.2 e1
      obtain ⟨f1, _⟩ := ly_in l hz.1 lv hz.2
      refine ⟨a, vs, v, j, z, rfl, rfl, SqL.of ha, ly_flat l hz.1, f1, k1, k2, k3, ?_⟩
      have q' := q (.int (j : Int)) vs lv (.int _)
      have eu : upd H a (.lst vs) = H := by
        funext b
        unfold upd
        split
        · rename_i hb
          rw [hb, ha]
        · rfl
      rw [eu] at q'
      exact q'
    · cases e
  · cases e
theorem mo_insert : MOk K (fun x vs H Q => ∃ (l : Addr) (xs : List V) (i : Int) (y : V), x = .ref l ∧ vs = [.int i, y] ∧ H l = some (.lst xs) ∧ xs.length < sizeLine ∧ 0 ≤ i ∧ i < 2 ^ 63 ∧
    Q .non (upd H l (.lst (xs.take i.toNat ++ [y] ++ xs.drop i.toNat)))) mInsert := fun H I a vs ws ds ps c es Q ha si lv lw e q => by
  unfold mInsert at e
  split at e
  · split at e
    · rename_i hz
      cases e
      obtain ⟨v, u, rfl, l1, l2⟩ := LyAll.two lw
      cases l1
      have hl := LyAll.length lv
      have hs : (sizeLine : Nat) < 2 ^ 63 := line63
      refine ⟨a, vs, _, u, rfl, rfl, ha, by rw [hl]; exact hz.1, hz.2.1, by omega, q _ _ ?_ .non⟩
      rw [List.append_assoc]
      exact LyAll.append (LyAll.take _ lv) (.cons l2 (LyAll.drop _ lv))
    · cases e
  · cases e
variable {W : Wish} {o a b : Expr} {eo ea eb : EvE} {apos cpos : Pos}
theorem se_append (ho : SE X W o eo) (ha : SE X W a ea) (hbase : attributeBase o "append" X.env (eval o X.env) = eval o X.env := by rfl)
    (hfew : ((backTo cpos (starEach [a] X.env)).all (fun x => !x.1) && (backToKw cpos (keywordEach [] X.env)).all (fun x => x.1.isSome) && decide (([a] : List Expr).length + ([] : List Keyword).length + (if ([] : List Keyword).isEmpty then 0 else 1) < 30)) = true := by rfl)
    (hline : (apos.endLine == cpos.line) = true := by rfl) (hs : starEach [a] X.env = (false, eval a X.env) :: starEach [] X.env := by rfl) (hp : (backTo cpos (starEach [] X.env)).any (·.1) = false := by rfl) :
    SE X W (.Call (.Attribute o "append" apos) [a] [] cpos) (eMeth mAppend eo (aCons ea aNil)) := se_meth PySem.F.slot_list_append PySem.F.type_list_append mt_append mo_append ho (sa_cons ha sa_nil hs) hbase hfew hline hs hp
theorem se_pop (ho : SE X W o eo) (hbase : attributeBase o "pop" X.env (eval o X.env) = eval o X.env := by rfl) (hline : (apos.endLine == cpos.line) = true := by rfl) :
    SE X W (.Call (.Attribute o "pop" apos) [] [] cpos) (eMeth mPop eo aNil) := se_meth0 PySem.F.slot_list_pop PySem.F.type_list_pop mt_pop mo_pop ho hbase hline
theorem se_popAt (ho : SE X W o eo) (ha : SE X W a ea) (hbase : attributeBase o "pop" X.env (eval o X.env) = eval o X.env := by rfl)
    (hfew : ((backTo cpos (starEach [a] X.env)).all (fun x => !x.1) && (backToKw cpos (keywordEach [] X.env)).all (fun x => x.1.isSome) && decide (([a] : List Expr).length + ([] : List Keyword).length + (if ([] : List Keyword).isEmpty then 0 else 1) < 30)) = true := by rfl)
    (hline : (apos.endLine == cpos.line) = true := by rfl) (hs : starEach [a] X.env = (false, eval a X.env) :: starEach [] X.env := by rfl) (hp : (backTo cpos (starEach [] X.env)).any (·.1) = false := by rfl) :
    SE X W (.Call (.Attribute o "pop" apos) [a] [] cpos) (eMeth mPopAt eo (aCons ea aNil)) := se_meth PySem.F.slot_list_pop PySem.F.type_list_pop mt_popAt mo_popAt ho (sa_cons ha sa_nil hs) hbase hfew hline hs hp
theorem se_index (ho : SE X W o eo) (ha : SE X W a ea) (hbase : attributeBase o "index" X.env (eval o X.env) = eval o X.env := by rfl)
    (hfew : ((backTo cpos (starEach [a] X.env)).all (fun x => !x.1) && (backToKw cpos (keywordEach [] X.env)).all (fun x => x.1.isSome) && decide (([a] : List Expr).length + ([] : List Keyword).length + (if ([] : List Keyword).isEmpty then 0 else 1) < 30)) = true := by rfl)
    (hline : (apos.endLine == cpos.line) = true := by rfl) (hs : starEach [a] X.env = (false, eval a X.env) :: starEach [] X.env := by rfl) (hp : (backTo cpos (starEach [] X.env)).any (·.1) = false := by rfl) :
    SE X W (.Call (.Attribute o "index" apos) [a] [] cpos) (eMeth mIndex eo (aCons ea aNil)) := se_meth PySem.F.slot_list_index PySem.F.type_list_index mt_index mo_index ho (sa_cons ha sa_nil hs) hbase hfew hline hs hp
theorem se_insert (ho : SE X W o eo) (ha : SE X W a ea) (hb : SE X W b eb) (hbase : attributeBase o "insert" X.env (eval o X.env) = eval o X.env := by rfl)
    (hfew : ((backTo cpos (starEach [a, b] X.env)).all (fun x => !x.1) && (backToKw cpos (keywordEach [] X.env)).all (fun x => x.1.isSome) && decide (([a, b] : List Expr).length + ([] : List Keyword).length + (if ([] : List Keyword).isEmpty then 0 else 1) < 30)) = true := by rfl)
    (hline : (apos.endLine == cpos.line) = true := by rfl) (hs : starEach [a, b] X.env = (false, eval a X.env) :: starEach [b] X.env := by rfl) (hs2 : starEach [b] X.env = (false, eval b X.env) :: starEach [] X.env := by rfl) (hp : (backTo cpos (starEach [b] X.env)).any (·.1) = false := by rfl) :
    SE X W (.Call (.Attribute o "insert" apos) [a, b] [] cpos) (eMeth mInsert eo (aCons ea (aCons eb aNil))) := se_meth PySem.F.slot_list_insert PySem.F.type_list_insert mt_insert mo_insert ho (sa_cons ha (sa_cons hb sa_nil hs2) hs) hbase hfew hline hs hp
end
end Zd

set_option Elab.async false
set_option linter.all false
set_option maxRecDepth 100000
set_option maxHeartbeats 4000000
/-! Statements, read by value. -/
namespace Zd
open PySem PySem.Spec PyProof.Rows L2

inductive Fl where
  | nx
  | rt (d : D)
  | bk
  | ct
abbrev EvS := Env → Store → Out ((Fl × Env) × Store)
/-- what is wanted at an end -/
def AtEnd (K : PySem.W.Frag) (xs : List Addr) (D : Ends) (q : Fl × Env) (H : Hp) (ad : List Addr) : Prop := ∀ σ', SRep K H ad xs σ' q.2 →
  match q.1 with
  | .nx => D.nx σ' H
  | .rt d => ∀ v, Rep K H ad xs d v → D.rt v H
  | .bk => D.bk σ' H
  | .ct => D.ct σ' H
def tDS (K : PySem.W.Frag) (W : Wish) (ev : EvS) : TS := fun D σ H => ∃ ad xs env μ, SRep K H ad xs σ env ∧ WOk K H ad xs μ ∧
  Post K xs W H ad (ev env μ) fun q H' ad' _ => AtEnd K xs D q H' ad'
abbrev SS (X : Cx) (W : Wish) (st : Stmt) (ev : EvS) : Prop := PS X st (tDS X.K W ev)
abbrev SSs (X : Cx) (W : Wish) (st : List Stmt) (ev : EvS) : Prop := PSs X st (tDS X.K W ev)
section
variable {X : Cx}
theorem ps_imp {st : Stmt} {t t' : TS} (h : PS X st t) (k : ∀ D σ H, t' D σ H → t D σ H) : PS X st t' := ⟨fun pins s σ H D I q => h.run pins s σ H D I (k _ _ _ q)⟩
theorem pss_imp {st : List Stmt} {t t' : TS} (h : PSs X st t) (k : ∀ D σ H, t' D σ H → t D σ H) : PSs X st t' := ⟨fun pins s σ H D I q => h.run pins s σ H D I (k _ _ _ q)⟩
end

/-! ### blocks -/
def sNil : EvS := fun env μ => .ok ((.nx, env), μ)
def sCons (a b : EvS) : EvS := fun env μ => (a env μ).bind fun p => match p.1.1 with
  | .nx => b p.1.2 p.2
  | f => .ok ((f, p.1.2), p.2)
/-- slots forgotten -/
def sForget (vs : List Nat) (a : EvS) : EvS := fun env μ => (a env μ).bind fun p => .ok ((p.1.1, wipeE p.1.2 vs), p.2)
def sExp (ea : EvE) : EvS := fun env μ => (ea env μ).bind fun p => .ok ((.nx, env), p.2)
def sRet (ea : EvE) : EvS := fun env μ => (ea env μ).bind fun p => .ok ((.rt p.1, env), p.2)
def sRetN : EvS := fun env μ => .ok ((.rt (.pd .none), env), μ)
def sBrk : EvS := fun env μ => .ok ((.bk, env), μ)
def sCnt : EvS := fun env μ => .ok ((.ct, env), μ)
def sIf (c : EvT) (a b : EvS) : EvS := fun env μ => (c env μ).bind fun p => if p.1 = true then a env p.2 else b env p.2
def sStuck : EvS := fun _ _ => .stuck
section
variable {X : Cx} {W : Wish} {st : Stmt} {rest as bs : List Stmt} {a b : EvS} {e c : Expr} {ea : EvE} {ec : EvT} {pos : Pos}
theorem ss_nil : SSs X W [] sNil := pss_imp pss_nil fun D σ H h => by
  obtain ⟨ad, xs, env, μ, sr, w, p⟩ := h
  exact (p.ok w) σ sr
theorem seq_core {D : Ends} {σ : L2.St} {H : Hp} (h : tDS X.K W (sCons a b) D σ H) : tSeq (tDS X.K W a) (tDS X.K W b) D σ H := by
  obtain ⟨ad, xs, env, μ, sr, w, p⟩ := h
  refine ⟨ad, xs, env, μ, sr, w, p.bind.mono fun q H1 ad1 μ1 e1 w1 p1 σ1 sr1 => ?_⟩
  obtain ⟨f, env1⟩ := q
  dsimp only at p1
  cases f with
  | nx => exact ⟨ad1, xs, env1, μ1, sr1, w1, p1⟩
  | rt d => exact (p1.ok w1) σ1 sr1
  | bk => exact (p1.ok w1) σ1 sr1
  | ct => exact (p1.ok w1) σ1 sr1
theorem ss_cons (h1 : SS X W st a) (h2 : SSs X W rest b) : SSs X W (st :: rest) (sCons a b) := pss_imp (pss_cons h1 h2) fun D σ H h => seq_core h
theorem ss_one (h1 : SS X W st a) : SSs X W [st] a := pss_one h1
theorem forget_core {vs : List Nat} {D : Ends} {σ : L2.St} {H : Hp} (h : tDS X.K W (sForget vs a) D σ H) : tDS X.K W a D σ H := by
  obtain ⟨ad, xs, env, μ, sr, w, p⟩ := h
  refine ⟨ad, xs, env, μ, sr, w, p.bind.mono fun q H1 ad1 μ1 e1 w1 p1 σ1 sr1 => ?_⟩
  exact (p1.ok w1) σ1 (sr1.forgets vs)
theorem ss_forget (vs : List Nat) (h : SSs X W as a) : SSs X W as (sForget vs a) := pss_imp h fun D σ H h => forget_core h
theorem ss_forget1 (vs : List Nat) (h : SS X W st a) : SS X W st (sForget vs a) := ps_imp h fun D σ H h => forget_core h
theorem ss_exp (he : SE X W e ea) (hs : swapsWith e none pos.line X.env = pure false := by rfl) : SS X W (.Expr e pos) (sExp ea) := ps_imp (ps_expr he hs) fun D σ H h => by
  obtain ⟨ad, xs, env, μ, sr, w, p⟩ := h
  exact ⟨ad, xs, env, μ, sr, w, p.bind.mono fun d H1 ad1 μ1 e1 w1 p1 v r => (p1.ok w1) σ (sr.ext e1)⟩
theorem ss_ret (he : SE X W e ea) : SS X W (.Return (some e) pos) (sRet ea) := ps_imp (ps_ret he) fun D σ H h => by
  obtain ⟨ad, xs, env, μ, sr, w, p⟩ := h
  exact ⟨ad, xs, env, μ, sr, w, p.bind.mono fun d H1 ad1 μ1 e1 w1 p1 v r => (p1.ok w1) σ (sr.ext e1) v r⟩
theorem ss_retN : SS X W (.Return none pos) sRetN := ps_imp ps_retN fun D σ H h => by
  obtain ⟨ad, xs, env, μ, sr, w, p⟩ := h
  exact (p.ok w) σ sr _ .non
theorem ss_brk : SS X W (.Break pos) sBrk := ps_imp ps_break fun D σ H h => by
  obtain ⟨ad, xs, env, μ, sr, w, p⟩ := h
  exact (p.ok w) σ sr
theorem ss_cnt : SS X W (.Continue pos) sCnt := ps_imp ps_continue fun D σ H h => by
  obtain ⟨ad, xs, env, μ, sr, w, p⟩ := h
  exact (p.ok w) σ sr
theorem ss_if (hc : ST X W c ec) (ha : SSs X W as a) (hb : SSs X W bs b) : SS X W (.If c as bs pos) (sIf ec a b) := ps_imp (ps_if hc ha hb) fun D σ H h => by
  obtain ⟨ad, xs, env, μ, sr, w, p⟩ := h
  refine ⟨ad, xs, env, μ, sr, w, p.bind.mono fun d H1 ad1 μ1 e1 w1 p1 => ?_⟩
  dsimp only at p1
  cases d with
  | true => exact ⟨ad1, xs, env, μ1, sr.ext e1, w1, p1⟩
  | false => exact ⟨ad1, xs, env, μ1, sr.ext e1, w1, p1⟩
/-- a statement that is never come to -/
theorem ss_stuck : SS X W st sStuck := ps_imp ps_never fun D σ H h => by
  obtain ⟨ad, xs, env, μ, sr, w, p⟩ := h
  exact p
end

/-! ### targets -/
inductive Tg where
  | nm (i : Nat)
  | tp (ts : List Tg)
mutual
/-- a target takes a value -/
def bindT : Tg → D → Env → Option Env
  | .nm i, d, env => if i < env.length then some (env.set i (some d)) else none
  | .tp ts, .pd (.tuple ds), env => if ts.length = ds.length then bindTs ts (ds.map .pd) env else none
  | .tp _, _, _ => none
def bindTs : List Tg → List D → Env → Option Env
  | [], [], env => some env
  | t :: ts, d :: ds, env => match bindT t d env with
    | some env' => bindTs ts ds env'
    | none => none
  | _, _, _ => none
end
mutual
def slotsT : Tg → List Nat
  | .nm i => [i]
  | .tp ts => slotsTs ts
def slotsTs : List Tg → List Nat
  | [] => []
  | t :: ts => slotsT t ++ slotsTs ts
end
/-- behind a target: the slots; those wiped are as they were -/
def tDG (K : PySem.W.Frag) (T : Tg) : TG := fun v σ H Q => ∃ ad xs env d env', SRep K H ad xs σ env ∧ Rep K H ad xs d v ∧ bindT T d env = some env' ∧
  ∀ σ', SRep K H ad xs σ' env' → (∀ vs, (∀ i ∈ slotsT T, i ∈ vs) → L2.wipe σ' vs = L2.wipe σ vs) → Q σ' H
def tDGs (K : PySem.W.Frag) (Ts : List Tg) : TGs := fun ws σ H Q => ∃ ad xs env ds env', SRep K H ad xs σ env ∧ RepAll K H ad xs ds ws ∧ bindTs Ts ds env = some env' ∧
  ∀ σ', SRep K H ad xs σ' env' → (∀ vs, (∀ i ∈ slotsTs Ts, i ∈ vs) → L2.wipe σ' vs = L2.wipe σ vs) → Q σ' H
abbrev SG (X : Cx) (t : Expr) (T : Tg) : Prop := PG X t (tDG X.K T)
abbrev SGs (X : Cx) (ts : List Expr) (Ts : List Tg) : Prop := PGs X ts (tDGs X.K Ts)
theorem wipe_set {σ : L2.St} {i : Nat} {o : Option V} : ∀ {vs : List Nat}, i ∈ vs → L2.wipe (σ.set i o) vs = L2.wipe σ vs
  | v :: vs, h => by
    unfold L2.wipe
    by_cases e : i = v
    · subst e
      by_cases hm : i ∈ vs
      · rw [wipe_set hm]
      · have k : ∀ (vs : List Nat), i ∉ vs → L2.wipe (σ.set i o) vs = (L2.wipe σ vs).set i o := by
          intro vs
          induction vs with
          | nil => intro _; rfl
          | cons u us ih =>
            intro hn
            simp only [List.mem_cons, not_or] at hn
            unfold L2.wipe
            rw [ih hn.2, List.set_comm _ _ (show i ≠ u from hn.1)]
        rw [k vs hm, List.set_set]
    · have hm : i ∈ vs := by
        rcases List.mem_cons.mp h with z | z
        · exact absurd z e
        · exact z
      rw [wipe_set hm]
section
variable {X : Cx} {t : Expr} {ts : List Expr} {T : Tg} {Ts : List Tg} {pos : Pos} {k : Nat}
theorem pg_imp {g g' : TG} (h : PG X t g) (k : ∀ v σ H Q, g' v σ H Q → g v σ H Q) : PG X t g' := ⟨fun pins s σ H v u Q I r q => h.run pins s σ H v u Q I r (k _ _ _ _ q)⟩
theorem pgs_imp {g g' : TGs} (h : PGs X ts g) (k : ∀ v σ H Q, g' v σ H Q → g v σ H Q) : PGs X ts g' := ⟨fun pins s σ H v u Q I r q => h.run pins s σ H v u Q I r (k _ _ _ _ q)⟩
theorem sg_nm (i : Nat) {x : Str} (hN : X.N.Nodup) (hi : X.N[i]? = some x := by rfl) (hx : Loc X.env.scope x := by first | exact .inl rfl | exact .inr rfl) (hf : X.fn x = true ∨ X.env.scope.names.lookup x = some .local := by first | exact .inl rfl | exact .inr rfl | assumption) :
    SG X (.Name x pos) (.nm i) := pg_imp (pg_name hN hi hx hf) fun v σ H Q h => by
  obtain ⟨ad, xs, env, d, env', sr, r, e, q⟩ := h
  unfold bindT at e
  split at e
  · rename_i hl
    cases e
    exact q _ (sr.set r) fun vs hv => wipe_set (hv i (by simp [slotsT]))
  · cases e
theorem sgs_nil : SGs X [] [] := pgs_imp pgs_nil fun v σ H Q h => by
  obtain ⟨ad, xs, env, ds, env', sr, r, e, q⟩ := h
  cases r with
  | nil =>
    unfold bindTs at e
    cases e
    exact ⟨rfl, q _ sr fun _ _ => rfl⟩
  | cons _ _ => cases e
theorem sgs_cons (h1 : SG X t T) (h2 : SGs X ts Ts) (hs : (assignEach (t :: ts) X.env).map (·.2) = assign t X.env :: (assignEach ts X.env).map (·.2) := by rfl) : SGs X (t :: ts) (T :: Ts) := pgs_imp (pgs_cons h1 h2 hs) fun v σ H Q h => by
  obtain ⟨ad, xs, env, ds, env', sr, r, e, q⟩ := h
  cases r with
  | nil => cases e
  | @cons d v ds vs r rs =>
    unfold bindTs at e
    cases h1 : bindT T d env with
    | none => rw [h1] at e; cases e
    | some env1 =>
      rw [h1] at e
      refine ⟨v, vs, rfl, ad, xs, env, d, env1, sr, r, h1, fun σ1 sr1 w1 => ⟨ad, xs, env1, ds, env', sr1, rs, e, fun σ2 sr2 w2 => q σ2 sr2 fun vs hv => ?_⟩⟩
      rw [w2 vs fun i hi => hv i (by simp [slotsTs, hi]), w1 vs fun i hi => hv i (by simp [slotsTs, hi])]
theorem repAll_pd {K : PySem.W.Frag} {H : Hp} {ad xs : List Addr} : ∀ {ds : List PyData} {vs : List V}, LyAll K (Im H ad xs) vs ds → RepAll K H ad xs (ds.map .pd) vs
  | _, _, .nil => .nil
  | _, _, .cons h t => .cons h (repAll_pd t)
theorem sg_tp (hc : X.calm = true) (h : SGs X ts Ts) (hn : (assignEach ts X.env).length = ts.length := by rfl) (hl : ts.length = Ts.length := by rfl) (hst : (assignEach ts X.env).findIdx? (·.1) = none := by rfl) : SG X (.Tuple ts k pos) (.tp Ts) :=
  pg_imp (pg_tup (n := ts.length) hc h hn hst) fun v σ H Q h => by
  obtain ⟨ad, xs, env, d, env', sr, r, e, q⟩ := h
  cases d with
  | pd d =>
    cases d with
    | tuple ds =>
      unfold bindT at e
      split at e
      · rename_i hl2
        cases r with
        | tup h l =>
          exact ⟨_, _, rfl, SqT.grow Im_le h, by rw [LyAll.length l, ← hl2, hl], ad, xs, env, _, env', sr, repAll_pd l, e, q⟩
      · cases e
    | _ => cases e
  | _ => cases e
end

/-! ### stores -/
def sSet (T : Tg) (ea : EvE) : EvS := fun env μ => (ea env μ).bind fun p => match bindT T p.1 env with
  | some env' => .ok ((.nx, env'), p.2)
  | none => .stuck
/-- several names from as many expressions -/
def sPar (Ts : List Tg) (ea : EvA) : EvS := fun env μ => (ea env μ).bind fun p => match bindTs Ts p.1 env with
  | some env' => .ok ((.nx, env'), p.2)
  | none => .stuck
/-- an item of a list stored -/
def sSetIx (eo ei ev : EvE) : EvS := fun env μ => (ev env μ).bind fun p => (eo env p.2).bind fun q => (ei env q.2).bind fun r =>
  match p.1, q.1, asI r.1 with
  | .pd d, .ref l, some i => match r.2[l]? with
    | some (.lst ds) => match ixN ds.length i with
      | some j => .ok ((.nx, env), r.2.set l (.lst (ds.set j d)))
      | none => .stuck
    | _ => .stuck
  | _, _, _ => .stuck
section
variable {X : Cx} {W : Wish} {t o i e : Expr} {ea eo ei ev : EvE} {T : Tg} {pos p2 : Pos}
theorem ss_set (n : Nat) {x : Str} {pos' : Pos} (hN : X.N.Nodup) (he : SE X W e ea) (hi : X.N[n]? = some x := by rfl) (hx : Loc X.env.scope x := by first | exact .inl rfl | exact .inr rfl) (hs : swapsWith e (some (.Name x pos')) pos.line X.env = pure false := by rfl) (hf : X.fn x = true ∨ X.env.scope.names.lookup x = some .local := by first | exact .inl rfl | exact .inr rfl | assumption) :
    SS X W (.Assign [.Name x pos'] e pos) (sSet (.nm n) ea) := ps_imp (ps_set hN hi hx he hs hf) fun D σ H h => by
  obtain ⟨ad, xs, env, μ, sr, w, p⟩ := h
  refine ⟨ad, xs, env, μ, sr, w, p.bind.mono fun d H1 ad1 μ1 e1 w1 p1 v r => ?_⟩
  dsimp only at p1
  cases hb : bindT (.nm n) d env with
  | none => rw [hb] at p1; exact p1.elim
  | some env' =>
    rw [hb] at p1
    unfold bindT at hb
    split at hb
    · cases hb
      exact (p1.ok w1) _ ((sr.ext e1).set r)
    · cases hb
theorem ss_asg (he : SE X W e ea) (hg : SG X t T) (hs : swapsWithSole [t] e pos.line X.env = pure false := by rfl) (hw : swappedStores [t] e X.env = pure none := by rfl)
    (h1 : (assignEach [t] X.env).map (·.2) = [assign t X.env] := by rfl) : SS X W (.Assign [t] e pos) (sSet T ea) := ps_imp (ps_asg he hg hs hw h1) fun D σ H h => by
  obtain ⟨ad, xs, env, μ, sr, w, p⟩ := h
  refine ⟨ad, xs, env, μ, sr, w, p.bind.mono fun d H1 ad1 μ1 e1 w1 p1 v r => ?_⟩
  dsimp only at p1
  cases hb : bindT T d env with
  | none => rw [hb] at p1; exact p1.elim
  | some env' =>
    rw [hb] at p1
    exact ⟨ad1, xs, env, d, env', sr.ext e1, r, hb, fun σ' sr' _ => (p1.ok w1) σ' sr'⟩
/-- .. where the value is written as a tuple and the tuple is made -/
theorem ss_parT {ts es : List Expr} {k k2 : Nat} {Ts : List Tg} {er : EvA} {pt pe : Pos} (hc : X.calm = true) (he : SA X W es er) (hg : SGs X ts Ts) (hn : (assignEach ts X.env).length = ts.length := by rfl) (hl : ts.length = Ts.length := by rfl) (hz : es.length = ts.length := by rfl) (hst : (assignEach ts X.env).findIdx? (·.1) = none := by rfl)
    (hs : swapsWithSole [.Tuple ts k pt] (.Tuple es k2 pe) pos.line X.env = pure false := by rfl) (hw : swappedStores [.Tuple ts k pt] (.Tuple es k2 pe) X.env = pure none := by rfl) (h1 : (assignEach [.Tuple ts k pt] X.env).map (·.2) = [assign (.Tuple ts k pt) X.env] := by rfl) (hz2 : decide (ts.length ≤ 1000) = true := by rfl) :
    SS X W (.Assign [.Tuple ts k pt] (.Tuple es k2 pe) pos) (sPar Ts er) := ps_imp (ps_asg (pe_tup he) (pg_tup (n := ts.length) hc hg hn hst) hs hw h1) fun D σ H h => by
  obtain ⟨ad, xs, env, μ, sr, w, p⟩ := h
  refine ⟨ad, xs, env, μ, sr, w, p.bind.mono fun ds H1 ad1 μ1 e1 w1 p1 vs r => ?_⟩
  dsimp only at p1
  cases hb : bindTs Ts ds env with
  | none => rw [hb] at p1; exact p1.elim
  | some env' =>
    rw [hb] at p1
    have hlen : ∀ (Ts : List Tg) (ds : List Zd.D) (env env' : Zd.Env), bindTs Ts ds env = some env' → Ts.length = ds.length := by
      intro Ts
      induction Ts with
      | nil =>
        intro ds env env' h
        cases ds with
        | nil => rfl
        | cons _ _ => cases h
      | cons T Ts ih =>
        intro ds env env' h
        cases ds with
        | nil => cases h
        | cons d ds =>
          unfold bindTs at h
          cases h2 : bindT T d env with
          | none => rw [h2] at h; cases h
          | some e2 =>
            rw [h2] at h
            simp [ih ds e2 env' h]
    have hvs : vs.length = ts.length := by rw [← RepAll.length r, ← hlen _ _ _ _ hb, hl]
    refine ⟨by rw [hvs]; exact Nat.le_trans (of_decide_eq_true hz2) (Nat.le_of_lt (small1000 (Nat.le_refl _))), fun p hp => ?_⟩
    obtain ⟨w2, e2, i2⟩ := w1.new (o := .tup vs) hp
    exact ⟨p, vs, rfl, SqT.of (Im_le _ _ i2), hvs, ad1, xs, env, ds, env', (sr.ext e1).ext e2, r.ext e2, hb, fun σ' sr' _ => (p1.ok_at e2 w2) σ' sr'⟩
/-- two plain names -/
theorem ss_par2 (m n : Nat) {x y : Str} {a b : Expr} {er : EvA} {px py pt : Pos} {kt k2 pt2} (hc : X.calm = true) (hN : X.N.Nodup) (ha : SA X W [a, b] er) (hi : X.N[m]? = some x := by rfl) (hj : X.N[n]? = some y := by rfl) (hij : m ≠ n := by decide)
    (hx : X.env.scope.names.lookup x = some .local := by rfl) (hy : X.env.scope.names.lookup y = some .local := by rfl)
    (hw : swappedStores [.Tuple [.Name x px, .Name y py] kt pt] (.Tuple [a, b] k2 pt2) X.env = pure (some [x, y]) := by rfl)
    (hs : swapsWithSole [.Tuple [.Name x px, .Name y py] kt pt] (.Tuple [a, b] k2 pt2) pos.line X.env = pure false := by rfl) :
    SS X W (.Assign [.Tuple [.Name x px, .Name y py] kt pt] (.Tuple [a, b] k2 pt2) pos) (sPar [.nm m, .nm n] er) := ps_imp (ps_par hc hN hi hj hij hx hy ha hw hs) fun D σ H h => by
  obtain ⟨ad, xs, env, μ, sr, w, p⟩ := h
  refine ⟨ad, xs, env, μ, sr, w, p.bind.mono fun ds H1 ad1 μ1 e1 w1 p1 vs r => ?_⟩
  dsimp only at p1
  cases hb : bindTs [.nm m, .nm n] ds env with
  | none => rw [hb] at p1; exact p1.elim
  | some env' =>
    rw [hb] at p1
    cases r with
    | nil => cases hb
    | @cons d v ds vs r rs =>
      cases rs with
      | nil =>
        unfold bindTs bindT at hb
        split at hb
        · cases hb
        · cases hb
      | @cons d2 v2 ds vs r2 rs =>
        refine ⟨v, v2, ?_, ?_⟩
        · cases rs with
          | nil => rfl
          | cons _ _ =>
            simp only [bindTs, bindT] at hb
            split at hb
            · rename_i q
              split at q <;> first | cases hb | (split at hb <;> (try cases hb))
            · cases hb
        · have sr1 := sr.ext e1
          simp only [bindTs, bindT] at hb
          by_cases h1 : m < env.length
          · by_cases h2 : n < env.length
            · simp only [h1, h2, if_true, List.length_set] at hb
              cases rs with
              | nil =>
                simp only [bindTs] at hb
                cases hb
                exact (p1.ok w1) _ ((sr1.set r).set r2)
              | cons _ _ => simp only [bindTs] at hb; cases hb
            · simp only [h1, h2, if_true, if_false, List.length_set] at hb; cases hb
          · simp only [h1, if_false] at hb; cases hb
/-- three plain names -/
theorem ss_par3 (m n l : Nat) {x y z : Str} {a b c : Expr} {er : EvA} {px py pz pt : Pos} {kt k2 pt2} (hc : X.calm = true) (hN : X.N.Nodup) (ha : SA X W [a, b, c] er) (hi : X.N[m]? = some x := by rfl) (hj : X.N[n]? = some y := by rfl) (hl : X.N[l]? = some z := by rfl) (hij : m ≠ n := by decide) (hil : m ≠ l := by decide) (hjl : n ≠ l := by decide)
    (hx : X.env.scope.names.lookup x = some .local := by rfl) (hy : X.env.scope.names.lookup y = some .local := by rfl) (hz : X.env.scope.names.lookup z = some .local := by rfl)
    (hw : swappedStores [.Tuple [.Name x px, .Name y py, .Name z pz] kt pt] (.Tuple [a, b, c] k2 pt2) X.env = pure (some [x, y, z]) := by rfl)
    (hs : swapsWithSole [.Tuple [.Name x px, .Name y py, .Name z pz] kt pt] (.Tuple [a, b, c] k2 pt2) pos.line X.env = pure false := by rfl) :
    SS X W (.Assign [.Tuple [.Name x px, .Name y py, .Name z pz] kt pt] (.Tuple [a, b, c] k2 pt2) pos) (sPar [.nm m, .nm n, .nm l] er) := ps_imp (ps_par3 hc hN hi hj hl hij hil hjl hx hy hz ha hw hs) fun D σ H h => by
  obtain ⟨ad, xs, env, μ, sr, w, p⟩ := h
  refine ⟨ad, xs, env, μ, sr, w, p.bind.mono fun ds H1 ad1 μ1 e1 w1 p1 vs r => ?_⟩
  dsimp only at p1
  cases hb : bindTs [.nm m, .nm n, .nm l] ds env with
  | none => rw [hb] at p1; exact p1.elim
  | some env' =>
    rw [hb] at p1
    have hm : m < env.length := by
      cases ds with
      | nil => cases hb
      | cons d ds =>
        simp only [bindTs, bindT] at hb
        by_cases h1 : m < env.length
        · exact h1
        · simp only [h1, if_false] at hb; cases hb
    have hn : n < env.length := by
      cases ds with
      | nil => cases hb
      | cons d ds =>
        cases ds with
        | nil => simp only [bindTs, bindT, hm, if_true] at hb; cases hb
        | cons d2 ds =>
          simp only [bindTs, bindT, hm, if_true, List.length_set] at hb
          by_cases h1 : n < env.length
          · exact h1
          · simp only [h1, if_false] at hb; cases hb
    cases r with
    | nil => cases hb
    | @cons d v ds vs r rs =>
      cases rs with
      | nil => simp only [bindTs, bindT, hm, if_true] at hb; cases hb
      | @cons d2 v2 ds vs r2 rs =>
        cases rs with
        | nil => simp only [bindTs, bindT, hm, hn, if_true, List.length_set] at hb; cases hb
        | @cons d3 v3 ds vs r3 rs =>
          simp only [bindTs, bindT, hm, hn, if_true, List.length_set] at hb
          by_cases h3 : l < env.length
          · simp only [h3, if_true] at hb
            cases rs with
            | nil =>
              simp only [bindTs] at hb
              cases hb
              exact ⟨v, v2, v3, rfl, (p1.ok w1) _ ((((sr.ext e1).set r).set r2).set r3)⟩
            | cons _ _ => simp only [bindTs] at hb; cases hb
          · simp only [h3, if_false] at hb; cases hb
theorem setIx_core {σ : L2.St} {H : Hp} {D : Ends} (h : tDS X.K W (sSetIx eo ei ev) D σ H) : tAsg (tD X.K W ev) (gSub (tD X.K W eo) (tD X.K W ei) rSetL) D σ H := by
  obtain ⟨ad, xs, env, μ, sr, w, p⟩ := h
  refine ⟨ad, xs, env, μ, sr, w, p.bind.mono fun d1 H1 ad1 μ1 e1 w1 p1 v1 r1 => ?_⟩
  refine ⟨ad1, xs, env, μ1, sr.ext e1, w1, p1.bind.mono fun d2 H2 ad2 μ2 e2 w2 p2 v2 r2 => ?_⟩
  refine ⟨ad2, xs, env, μ2, (sr.ext e1).ext e2, w2, p2.bind.mono fun d3 H3 ad3 μ3 e3 w3 p3 v3 r3 => ?_⟩
  dsimp only at p3
  cases hi : asI d3 with
  | none => rw [hi] at p3; cases d1 <;> cases d2 <;> exact p3.elim
  | some i =>
    rw [hi] at p3
    cases d1 with
    | pd d =>
      cases d2 with
      | ref l =>
        dsimp only at p3
        obtain ⟨a, g, rfl⟩ := r2.ext e3
        cases hc : μ3[l]? with
        | none => rw [hc] at p3; exact p3.elim
        | some c =>
          cases c with
          | lst ds =>
            rw [hc] at p3
            dsimp only at p3
            cases hj : ixN ds.length i with
            | none => rw [hj] at p3; exact p3.elim
            | some j =>
              rw [hj] at p3
              dsimp only at p3
              obtain ⟨vs, k1, k2⟩ := w3.cell l a _ g hc
              refine ⟨a, vs, i, j, rfl, asI_rep hi r3, k1, by rw [LyAll.length k2]; exact hj, ?_⟩
              have lv : Ly X.K (Im H3 ad3 xs) v1 d := (r1.ext e2).ext e3
              have em : Im (upd H3 a (.lst (vs.set j v1))) ad3 xs = Im H3 ad3 xs := by
                funext b
                unfold Im upd
                by_cases eb : b = a
                · subst eb; simp [List.mem_of_getElem? g]
                · simp [eb]
              obtain ⟨w4, e4⟩ := w3.write (o := .lst (vs.set j v1)) (c := .lst (ds.set j d)) g ⟨_, upd_same, by rw [em]; exact LyAll.set lv j k2⟩
              exact (p3.ok_at e4 w4) σ ((((sr.ext e1).ext e2).ext e3).ext e4)
          | _ => rw [hc] at p3; exact p3.elim
      | _ => exact p3.elim
    | _ => exact p3.elim
theorem ss_setIx (ho : SE X W o eo) (hi : SE X W i ei) (he : SE X W e ev)
    (ha : ∀ v, assign (.Subscript o i p2) X.env v = (do
      let ov ← holding [v] (eval o X.env)
      let iv ← holding [v, ov] (eval i X.env)
      standAt p2
      holding [v, ov, iv] (setItem ov iv v)
      release [v, ov, iv] []) := by intro _; rfl)
    (hs : swapsWithSole [.Subscript o i p2] e pos.line X.env = pure false := by rfl) (hw : swappedStores [.Subscript o i p2] e X.env = pure none := by rfl)
    (h1 : (assignEach [.Subscript o i p2] X.env).map (·.2) = [assign (.Subscript o i p2) X.env] := by rfl) : SS X W (.Assign [.Subscript o i p2] e pos) (sSetIx eo ei ev) := ps_imp (ps_asg he (pg_sub ho hi set_list ha) hs hw h1) fun D σ H h => setIx_core h
/-- x op= e, ints -/
def sAug (n : Nat) (f : Int → Int → Int) (ea : EvE) : EvS := fun env μ => match env[n]? with
  | some (some d) => (ea env μ).bind fun p => match asI d, asI p.1 with
    | some i, some j => .ok ((.nx, env.set n (some (.pd (.int (f i j))))), p.2)
    | _, _ => .stuck
  | _ => .stuck
theorem ss_aug (n : Nat) {x : Str} {op : Operator} {f : Int → Int → Int} {pos' : Pos} (hN : X.N.Nodup) (he : SE X W e ea) (ho : PIp X op (ipI f)) (hi : X.N[n]? = some x := by rfl) (hx : Loc X.env.scope x := by first | exact .inl rfl | exact .inr rfl) (hf : X.fn x = true ∨ X.env.scope.names.lookup x = some .local := by first | exact .inl rfl | exact .inr rfl | assumption) :
    SS X W (.AugAssign (.Name x pos') op e pos) (sAug n f ea) := ps_imp (ps_aug hN hi hx he ho hf) fun D σ H h => by
  obtain ⟨ad, xs, env, μ, sr, w, p⟩ := h
  unfold sAug at p
  cases he : env[n]? with
  | none => rw [he] at p; exact p.elim
  | some o =>
    cases o with
    | none => rw [he] at p; exact p.elim
    | some d =>
      rw [he] at p
      obtain ⟨v, h1, h2⟩ := sr.at_ n d he
      refine ⟨v, h1, ad, xs, env, μ, sr, w, p.bind.mono fun d2 H1 ad1 μ1 e1 w1 p1 v2 r2 => ?_⟩
      dsimp only at p1
      cases hi : asI d with
      | none => rw [hi] at p1; exact p1.elim
      | some i =>
        cases hj : asI d2 with
        | none => rw [hi, hj] at p1; exact p1.elim
        | some j =>
          rw [hi, hj] at p1
          exact ⟨i, j, asI_rep hi h2, asI_rep hj r2, (p1.ok w1) _ ((sr.ext e1).set (d := .pd (.int (f i j))) (Ly.int (f i j)))⟩
/-- o[i] op= e, an item of a list that may change, ints -/
def sAugIx (f : Int → Int → Int) (eo ei ea : EvE) : EvS := fun env μ => (eo env μ).bind fun p => (ei env p.2).bind fun q => match p.1, asI q.1 with
  | .ref l, some i => match q.2[l]? with
    | some (.lst ds0) => match atI ds0 i with
      | some (.int k) => if 0 ≤ i then (ea env q.2).bind fun r => match asI r.1, r.2[l]? with
        | some j, some (.lst ds) => match ixN ds.length i with
          | some n => .ok ((.nx, env), r.2.set l (.lst (ds.set n (.int (f k j)))))
          | none => .stuck
        | _, _ => .stuck
        else .stuck
      | _ => .stuck
    | _ => .stuck
  | _, _ => .stuck
def rGetN (K : PySem.W.Frag) : V → V → Hp → VK → Prop := fun x y H Q => ∃ p xs i v, x = .ref p ∧ y = .int i ∧ 0 ≤ i ∧ SqL K H p xs ∧ atI xs i = some v ∧ Q v H
theorem get_listN : PGet X (rGetN X.K) := by
  intro pins s σ H o i ov iv Q I ro ri h
  obtain ⟨p, xs, i, z, rfl, rfl, h0, hq, he, q⟩ := h
  cases ro
  obtain ⟨t, rfl⟩ := ri
  obtain ⟨its, r, pl, hz⟩ := I.list hq
  obtain ⟨j, h1, h2, h3, h4, h5⟩ := atI_get he
  obtain ⟨w, ew, rw'⟩ := r.get h2
  have hl := r.length
  have hn := line63
  have hj : i.toNat = j := by
    rw [seqIndex_of h0 h5] at h1
    exact Option.some.inj h1
  exact wpAny_getItem_list pl.isList h0 (by omega) (by rw [hj]; simpa using ew) ⟨z, H, I, rw', q⟩
theorem augIx_core {f : Int → Int → Int} {σ : L2.St} {H : Hp} {D : Ends} (h : tDS X.K W (sAugIx f eo ei ea) D σ H) : tAugS (tD X.K W eo) (tD X.K W ei) (tD X.K W ea) (rGetN X.K) (ipI f) rSetL D σ H := by
  obtain ⟨ad, xs, env, μ, sr, w, p⟩ := h
  refine ⟨ad, xs, env, μ, sr, w, p.bind.mono fun d1 H1 ad1 μ1 e1 w1 p1 v1 r1 => ?_⟩
  refine ⟨ad1, xs, env, μ1, sr.ext e1, w1, p1.bind.mono fun d2 H2 ad2 μ2 e2 w2 p2 v2 r2 => ?_⟩
  dsimp only at p2
  cases hi : asI d2 with
  | none => rw [hi] at p2; cases d1 <;> exact p2.elim
  | some i =>
    rw [hi] at p2
    cases d1 with
    | ref l =>
      dsimp only at p2
      obtain ⟨a, g, rfl⟩ := r1.ext e2
      cases hc : μ2[l]? with
      | none => rw [hc] at p2; exact p2.elim
      | some c =>
        cases c with
        | lst ds0 =>
          rw [hc] at p2
          dsimp only at p2
          cases hk : atI ds0 i with
          | none => rw [hk] at p2; exact p2.elim
          | some c0 =>
            cases c0 with
            | int k =>
              rw [hk] at p2
              dsimp only at p2
              split at p2
              · rename_i h0
                obtain ⟨vs0, k1, k2⟩ := w2.cell l a _ g hc
                obtain ⟨v0, k3, k4⟩ := ly_at k2 hk
                cases k4
                refine ⟨a, vs0, i, .int k, rfl, asI_rep hi r2, h0, SqL.of k1, k3, ?_⟩
                refine ⟨ad2, xs, env, μ2, (sr.ext e1).ext e2, w2, p2.bind.mono fun d3 H3 ad3 μ3 e3 w3 p3 v3 r3 => ?_⟩
                dsimp only at p3
                cases hj : asI d3 with
                | none => rw [hj] at p3; exact p3.elim
                | some j =>
                  rw [hj] at p3
                  cases hc3 : μ3[l]? with
                  | none => rw [hc3] at p3; exact p3.elim
                  | some c3 =>
                    cases c3 with
                    | lst ds =>
                      rw [hc3] at p3
                      dsimp only at p3
                      cases hn : ixN ds.length i with
                      | none => rw [hn] at p3; exact p3.elim
                      | some n =>
                        rw [hn] at p3
                        dsimp only at p3
                        have g3 := e3.get g
                        obtain ⟨vs, m1, m2⟩ := w3.cell l a _ g3 hc3
                        refine ⟨k, j, rfl, asI_rep hj r3, a, vs, i, n, rfl, asI_rep hi r2, m1, by rw [LyAll.length m2]; exact hn, ?_⟩
                        have em : Im (upd H3 a (.lst (vs.set n (.int (f k j))))) ad3 xs = Im H3 ad3 xs := by
                          funext b
                          unfold Im upd
                          by_cases eb : b = a
                          · subst eb; simp [List.mem_of_getElem? g3]
                          · simp [eb]
                        obtain ⟨w4, e4⟩ := w3.write (o := .lst (vs.set n (.int (f k j)))) (c := .lst (ds.set n (.int (f k j)))) g3 ⟨_, upd_same, by rw [em]; exact LyAll.set (.int _) n m2⟩
                        exact (p3.ok_at e4 w4) σ ((((sr.ext e1).ext e2).ext e3).ext e4)
                    | _ => rw [hc3] at p3; exact p3.elim
              · exact p2.elim
            | _ => rw [hk] at p2; exact p2.elim
        | _ => rw [hc] at p2; exact p2.elim
    | _ => exact p2.elim
theorem ss_augIx {op : Operator} {f : Int → Int → Int} (ho : SE X W o eo) (hi : SE X W i ei) (he : SE X W e ea) (hp : PIp X op (ipI f))
    (ha : ∀ ov iv new, augStore i ov iv new = (do holding [new, ov, iv] (setItem ov iv new); release [new, ov, iv] []; pure .next) := by intros; rfl) : SS X W (.AugAssign (.Subscript o i p2) op e pos) (sAugIx f eo ei ea) :=
  ps_imp (ps_augS ho hi get_listN he hp set_list ha) fun D σ H h => augIx_core h
end
end Zd

set_option Elab.async false
set_option linter.all false
set_option maxRecDepth 100000
set_option maxHeartbeats 4000000
/-! Loops and comprehensions, read by value. -/
namespace Zd
open PySem PySem.Spec PyProof.Rows L2

/-! ### what is walked -/
/-- the items; the lists that must stand as they do -/
abbrev Src := List D × List (Nat × Cell)
abbrev EvI := Env → Store → Out (Src × Store)
def Held (g : List (Nat × Cell)) (μ : Store) : Prop := ∀ q ∈ g, μ[q.1]? = some q.2
/-- J hands out the items, from the heap I on -/
def Walk (K : PySem.W.Frag) (I0 : Hp) (ad0 : List Addr) (J : It) (p : Src) : Prop := ∀ (i : Nat) (H : Hp) (ad xs : List Addr) (μ : Store),
  Same I0 (Im H ad xs) → (∃ nw, ad = ad0 ++ nw) → WOk K H ad xs μ → Held p.2 μ →
  (p.1.length = i → J.stop i H) ∧ (∀ d, p.1[i]? = some d → J.go i H ∧ ∀ x H', J.yld i H x H' → Ext H ad xs H' ad ∧ WOk K H' ad xs μ ∧ Rep K H' ad xs d x)
def tDI (K : PySem.W.Frag) (W : Wish) (ev : EvI) : TI := fun σ H R => ∃ ad xs env μ, SRep K H ad xs σ env ∧ WOk K H ad xs μ ∧
  Post K xs W H ad (ev env μ) fun p H' ad' _ => ∀ J, Walk K (Im H' ad' xs) ad' J p → R J H'
abbrev SI (X : Cx) (W : Wish) (tg it : Expr) (ev : EvI) : Prop := PI X tg it (tDI X.K W ev)
theorem pi_imp {X : Cx} {tg it : Expr} {t t' : TI} (h : PI X tg it t) (k : ∀ σ H Q, t' σ H Q → t σ H Q) : PI X tg it t' := ⟨fun pins s σ H R I q => h.run pins s σ H R I (k _ _ _ q)⟩

/-- a list or a tuple as it is walked -/
def srcL (μ : Store) : D → Option Src
  | .pd (.list ds) => some (ds.map .pd, [])
  | .ref l => match μ[l]? with
    | some (.lst ds) => some (ds.map .pd, [(l, .lst ds)])
    | some (.lls ls) => some (ls.map .ref, [(l, .lls ls)])
    | _ => none
  | _ => none
def iLst (ea : EvE) : EvI := fun env μ => (ea env μ).bind fun p => match srcL p.2 p.1 with
  | some s => .ok (s, p.2)
  | none => .stuck
def iTp (ea : EvE) : EvI := fun env μ => (ea env μ).bind fun p => match p.1 with
  | .pd (.tuple ds) => .ok ((ds.map .pd, []), p.2)
  | _ => .stuck
def iRg1 (ea : EvE) : EvI := fun env μ => (ea env μ).bind fun p => match asI p.1 with
  | some n => if -(2 ^ 62) ≤ n ∧ n < 2 ^ 62 then .ok (((List.range n.toNat).map fun (k : Nat) => .pd (.int (k : Int)), []), p.2) else .stuck
  | none => .stuck
def iRg2 (ea eb : EvE) : EvI := fun env μ => (ea env μ).bind fun p => (eb env p.2).bind fun q => match asI p.1, asI q.1 with
  | some m, some n => if -(2 ^ 62) ≤ m ∧ m < 2 ^ 62 ∧ -(2 ^ 62) ≤ n ∧ n < 2 ^ 62 then .ok (((List.range (n - m).toNat).map fun (k : Nat) => .pd (.int (m + (k : Int))), []), q.2) else .stuck
  | _, _ => .stuck
/-- a list's items as they stand, wherever -/
def AsList (K : PySem.W.Frag) (I0 : Hp) (ad0 : List Addr) (a : Addr) (p : Src) : Prop := ∀ (H : Hp) (ad xs : List Addr) (μ : Store), Same I0 (Im H ad xs) → (∃ nw, ad = ad0 ++ nw) → WOk K H ad xs μ → Held p.2 μ → ∃ vs, H a = some (.lst vs) ∧ RepAll K H ad xs p.1 vs
theorem RepAll.get {K : PySem.W.Frag} {H : Hp} {ad xs : List Addr} : ∀ {ds : List D} {vs : List V} {i : Nat} {d : D}, RepAll K H ad xs ds vs → ds[i]? = some d → ∃ v, vs[i]? = some v ∧ Rep K H ad xs d v
  | _, _, _, _, .nil, e => by simp at e
  | _, _, 0, _, .cons h _, e => by simp at e; subst e; exact ⟨_, rfl, h⟩
  | _, _, i + 1, _, .cons _ q, e => by
    obtain ⟨v, e1, e2⟩ := RepAll.get (i := i) q (by simpa using e)
    exact ⟨v, by simpa using e1, e2⟩
theorem lls_rep {K : PySem.W.Frag} {H : Hp} {ad xs : List Addr} : ∀ {ls : List Nat} {as : List Addr}, as.map some = ls.map (fun l => ad[l]?) → RepAll K H ad xs (ls.map .ref) (as.map V.ref)
  | [], [], _ => .nil
  | [], _ :: _, e => by simp at e
  | _ :: _, [], e => by simp at e
  | l :: ls, a :: as, e => by
    simp only [List.map_cons, List.cons.injEq] at e
    exact .cons ⟨a, e.1.symm, rfl⟩ (lls_rep e.2)
theorem srcL_as {K : PySem.W.Frag} {H : Hp} {ad xs : List Addr} {μ : Store} {d : D} {v : V} {p : Src} (w : WOk K H ad xs μ) (r : Rep K H ad xs d v) (e : srcL μ d = some p) : ∃ a, v = .ref a ∧ AsList K (Im H ad xs) ad a p ∧ Held p.2 μ := by
  cases d with
  | pd d =>
    cases d with
    | list ds =>
      cases e
      cases r with
      | lst h l =>
        rename_i a vs
        exact ⟨a, rfl, fun H' ad' xs' μ' s _ w' _ => ⟨vs, (Im_some (s _ _ h)).2.2, repAll_pd (LyAll.grow s l)⟩, fun q hq => by simp at hq⟩
    | _ => cases e
  | ref l =>
    obtain ⟨a, g, rfl⟩ := r
    cases hc : μ[l]? with
    | none => simp [srcL, hc] at e
    | some c =>
      cases c with
      | lst ds =>
        simp only [srcL, hc, Option.some.injEq] at e
        subst e
        refine ⟨a, rfl, fun H' ad' xs' μ' s ⟨nw, en⟩ w' hh => ?_, fun q hq => ?_⟩
        · have hc' := hh (l, .lst ds) (by simp)
          have g' : ad'[l]? = some a := by
            rw [en, List.getElem?_append_left (List.getElem?_eq_some_iff.mp g).1]
            exact g
          obtain ⟨vs, k1, k2⟩ := w'.cell l a _ g' hc'
          exact ⟨vs, k1, repAll_pd k2⟩
        · have : q = (l, .lst ds) := by simpa using hq
          subst this
          exact hc
      | lls ls =>
        simp only [srcL, hc, Option.some.injEq] at e
        subst e
        refine ⟨a, rfl, fun H' ad' xs' μ' s ⟨nw, en⟩ w' hh => ?_, fun q hq => ?_⟩
        · have hc' := hh (l, .lls ls) (by simp)
          have g' : ad'[l]? = some a := by
            rw [en, List.getElem?_append_left (List.getElem?_eq_some_iff.mp g).1]
            exact g
          obtain ⟨as, k1, k2⟩ := w'.cell l a _ g' hc'
          exact ⟨_, k1, lls_rep k2⟩
        · have : q = (l, .lls ls) := by simpa using hq
          subst this
          exact hc
      | _ => simp [srcL, hc] at e
  | scr ns => cases e
theorem walk_asL {K : PySem.W.Frag} {I0 : Hp} {ad0 : List Addr} {a : Addr} {p : Src} (h : AsList K I0 ad0 a p) : Walk K I0 ad0 (Itl K a) p := fun i H ad xs μ s n w hh => by
  obtain ⟨vs, k1, k2⟩ := h H ad xs μ s n w hh
  have hl := RepAll.length k2
  refine ⟨fun hi => ⟨vs, SqL.of k1, by omega⟩, fun d hd => ?_⟩
  obtain ⟨v, e1, e2⟩ := RepAll.get k2 hd
  refine ⟨⟨vs, v, SqL.of k1, e1⟩, fun x H' y => ?_⟩
  obtain ⟨rfl, y⟩ := y
  have ex := y vs (SqL.of k1)
  rw [e1] at ex
  cases ex
  exact ⟨Ext.refl, w, e2⟩
theorem walk_tp {K : PySem.W.Frag} {I0 : Hp} {ad0 : List Addr} {a : Addr} {vs : List V} {ds : List PyData} (h : SqT K I0 a vs) (l : LyAll K I0 vs ds) : Walk K I0 ad0 (Itt K a) (ds.map .pd, []) := fun i H ad xs μ s n w hh => by
  have h' := SqT.grow Im_le (SqT.grow s h)
  have l' := repAll_pd (LyAll.grow s l)
  have hl := RepAll.length l'
  refine ⟨fun hi => ⟨vs, h', by simp only at hi; omega⟩, fun d hd => ?_⟩
  obtain ⟨v, e1, e2⟩ := RepAll.get l' hd
  refine ⟨⟨vs, v, h', e1⟩, fun x H' y => ?_⟩
  obtain ⟨rfl, y⟩ := y
  have ex := y vs h'
  rw [e1] at ex
  cases ex
  exact ⟨Ext.refl, w, e2⟩
theorem walk_rg {K : PySem.W.Frag} {I0 : Hp} {ad0 : List Addr} {m : Int} {n : Nat} : Walk K I0 ad0 (Itr m n) ((List.range n).map fun (k : Nat) => .pd (.int (m + (k : Int))), []) := fun i H ad xs μ s nn w hh => by
  refine ⟨fun hi => by have h2 : n = i := (by simpa using hi); simp [Itr]; omega, fun d hd => ?_⟩
  simp only [List.getElem?_map, Option.map_eq_some_iff] at hd
  obtain ⟨k, e1, rfl⟩ := hd
  obtain ⟨hk, ek⟩ := List.getElem?_eq_some_iff.mp e1
  have ek' : k = i := by simpa using ek.symm
  subst ek'
  refine ⟨by simpa [Itr] using hk, fun x H' y => ?_⟩
  obtain ⟨rfl, rfl⟩ := y
  exact ⟨Ext.refl, w, Ly.int _⟩
section
variable {X : Cx} {W : Wish} {tg a b : Expr} {ea eb : EvE} {pos p : Pos}
theorem si_lst (ha : SE X W a ea) : SI X W tg a (iLst ea) := pi_imp (pi_list ha) fun σ H R h => by
  obtain ⟨ad, xs, env, μ, sr, w, p⟩ := h
  refine ⟨ad, xs, env, μ, sr, w, p.bind.mono fun d H1 ad1 μ1 e1 w1 q v r => ?_⟩
  dsimp only at q
  cases hs : srcL μ1 d with
  | none => rw [hs] at q; exact q.elim
  | some s =>
    rw [hs] at q
    obtain ⟨a, rfl, k1, k2⟩ := srcL_as w1 r hs
    obtain ⟨vs, k3, _⟩ := k1 H1 ad1 xs μ1 (fun _ _ h => h) ⟨[], by simp⟩ w1 k2
    exact ⟨a, rfl, ⟨vs, SqL.of k3⟩, q.ok w1 _ (walk_asL k1)⟩
theorem si_tp (ha : SE X W a ea) : SI X W tg a (iTp ea) := pi_imp (pi_tup ha) fun σ H R h => by
  obtain ⟨ad, xs, env, μ, sr, w, p⟩ := h
  refine ⟨ad, xs, env, μ, sr, w, p.bind.mono fun d H1 ad1 μ1 e1 w1 q v r => ?_⟩
  dsimp only at q
  cases d with
  | pd d =>
    cases d with
    | tuple ds =>
      cases r with
      | tup h l => exact ⟨_, rfl, ⟨_, SqT.grow Im_le h⟩, q.ok w1 _ (walk_tp h l)⟩
    | _ => exact q.elim
  | _ => exact q.elim
theorem si_rg1 (hg : Gl X "range") (hm : X.mg "range" = none) (ha : SE X W a ea) (hs : starEach [a] X.env = [(false, eval a X.env)] := by rfl) : SI X W tg (.Call (.Name "range" p) [a] [] pos) (iRg1 ea) := pi_imp (pi_range1 hg hm (pa_cons ha pa_nil hs) hs) fun σ H R h => by
  obtain ⟨ad, xs, env, μ, sr, w, p⟩ := h
  refine ⟨ad, xs, env, μ, sr, w, p.bind.mono fun d H1 ad1 μ1 e1 w1 q v r => ?_⟩
  dsimp only at q
  cases hi : asI d with
  | none => rw [hi] at q; exact q.elim
  | some n =>
    rw [hi] at q
    dsimp only at q
    split at q
    · rename_i hn
      refine ⟨n, by rw [asI_rep hi r], hn.1, hn.2, ?_⟩
      have wk := walk_rg (K := X.K) (I0 := Im H1 ad1 xs) (ad0 := ad1) (m := 0) (n := n.toNat)
      simp only [Int.zero_add] at wk
      exact q.ok w1 _ wk
    · exact q.elim
theorem si_rg2 (hg : Gl X "range") (hm : X.mg "range" = none) (ha : SE X W a ea) (hb : SE X W b eb) (hs : starEach [a, b] X.env = [(false, eval a X.env), (false, eval b X.env)] := by rfl) (hs2 : starEach [b] X.env = [(false, eval b X.env)] := by rfl)
    (hs3 : starEach [a, b] X.env = (false, eval a X.env) :: starEach [b] X.env := by rfl) : SI X W tg (.Call (.Name "range" p) [a, b] [] pos) (iRg2 ea eb) := pi_imp (pi_range2 hg hm (pa_cons ha (pa_cons hb pa_nil hs2) hs3) hs hs2) fun σ H R h => by
  obtain ⟨ad, xs, env, μ, sr, w, p⟩ := h
  refine ⟨ad, xs, env, μ, sr, w, p.bind.mono fun d H1 ad1 μ1 e1 w1 q v r => ?_⟩
  refine ⟨ad1, xs, env, μ1, sr.ext e1, w1, q.bind.mono fun d2 H2 ad2 μ2 e2 w2 q2 v2 r2 => ?_⟩
  dsimp only at q2
  cases hi : asI d with
  | none => rw [hi] at q2; exact q2.elim
  | some m =>
    cases hj : asI d2 with
    | none => rw [hi, hj] at q2; exact q2.elim
    | some n =>
      rw [hi, hj] at q2
      dsimp only at q2
      split at q2
      · rename_i hn
        refine ⟨m, n, by rw [asI_rep hi r, asI_rep hj r2], ⟨hn.1, hn.2.1, hn.2.2.1, hn.2.2.2⟩, ?_⟩
        exact q2.ok w2 _ walk_rg
      · exact q2.elim
end

/-! ### for -/
open Classical in
noncomputable def loopD (g : List (Nat × Cell)) (T : Tg) (body : EvS) : List D → EvS
  | [], env, μ => if Held g μ then .ok ((.nx, env), μ) else .stuck
  | d :: ds, env, μ => if Held g μ then match bindT T d env with
    | some env1 => (body env1 μ).bind fun p => match p.1.1 with
      | .nx => loopD g T body ds p.1.2 p.2
      | .ct => loopD g T body ds p.1.2 p.2
      | .bk => .ok ((.nx, p.1.2), p.2)
      | .rt d => .ok ((.rt d, p.1.2), p.2)
    | none => .stuck
    else .stuck
noncomputable def sFor (T : Tg) (ei : EvI) (body : EvS) : EvS := fun env μ => (ei env μ).bind fun p => loopD p.1.2 T body p.1.1 env p.2
section
variable {X : Cx} {W : Wish} {tg it : Expr} {T : Tg} {ei : EvI} {body : EvS} {bs : List Stmt} {pos : Pos}
theorem for_core {σ : L2.St} {H : Hp} {D : Ends} (h : tDS X.K W (sFor T ei body) D σ H) : tFor (tDI X.K W ei) (tDG X.K T) (tDS X.K W body) D σ H := by
  obtain ⟨ad, xs, env, μ, sr, w, p⟩ := h
  refine ⟨ad, xs, env, μ, sr, w, p.bind.mono fun s H1 ad1 μ1 e1 w1 p1 J wk => ?_⟩
  obtain ⟨items, g⟩ := s
  dsimp only at p1
  -- the invariant: what is left is still to be walked
  refine ⟨fun i m σ' H' => m = items.length - i ∧ i ≤ items.length ∧ ∃ ad' env' μ', Same (Im H1 ad1 xs) (Im H' ad' xs) ∧ (∃ nw, ad' = ad1 ++ nw) ∧ SRep X.K H' ad' xs σ' env' ∧ WOk X.K H' ad' xs μ' ∧ Post X.K xs W H' ad' (loopD g T body (items.drop i) env' μ') fun q H'' ad'' _ => AtEnd X.K xs D q H'' ad'',
    ⟨items.length, by simp, Nat.zero_le _, ad1, env, μ1, fun _ _ h => h, ⟨[], by simp⟩, sr.ext e1, w1, by rw [List.drop_zero]; exact p1⟩, ?_⟩
  rintro i m σ' H' ⟨rfl, hi, ad', env', μ', sm, nw, sr', w', p'⟩
  by_cases hlt : i < items.length
  · rw [List.drop_eq_getElem_cons hlt] at p'
    unfold loopD at p'
    split at p'
    · rename_i hh
      obtain ⟨_, k2⟩ := wk i H' ad' xs μ' sm nw w' hh
      obtain ⟨kg, ky⟩ := k2 items[i] (by simp [hlt])
      refine .inr ⟨kg, fun σ2 H2 => ∃ ad2 env2 μ2, Same (Im H1 ad1 xs) (Im H2 ad2 xs) ∧ (∃ nw, ad2 = ad1 ++ nw) ∧ SRep X.K H2 ad2 xs σ2 env2 ∧ WOk X.K H2 ad2 xs μ2 ∧ Post X.K xs W H2 ad2 (loopD g T body (items.drop (i + 1)) env2 μ2) fun q H'' ad'' _ => AtEnd X.K xs D q H'' ad'',
        fun σ2 H2 h2 => ⟨items.length - (i + 1), by omega, rfl, hlt, h2⟩, fun x Hx y => ?_⟩
      obtain ⟨ex, wx, rx⟩ := ky x Hx y
      cases hb : bindT T items[i] env' with
      | none => rw [hb] at p'; exact p'.elim
      | some env1 =>
        rw [hb] at p'
        dsimp only at p'
        refine ⟨ad', xs, env', _, env1, sr'.ext ex, rx, hb, fun σ1 sr1 _ => ?_⟩
        have pb : Post X.K xs W Hx ad' ((body env1 μ').bind fun p => match p.1.1 with
          | .nx => loopD g T body (items.drop (i + 1)) p.1.2 p.2
          | .ct => loopD g T body (items.drop (i + 1)) p.1.2 p.2
          | .bk => .ok ((.nx, p.1.2), p.2)
          | .rt d => .ok ((.rt d, p.1.2), p.2)) fun q H'' ad'' _ => AtEnd X.K xs D q H'' ad'' := by
          revert p'
          generalize ((body env1 μ').bind fun p => match p.1.1 with
            | .nx => loopD g T body (items.drop (i + 1)) p.1.2 p.2
            | .ct => loopD g T body (items.drop (i + 1)) p.1.2 p.2
            | .bk => .ok ((.nx, p.1.2), p.2)
            | .rt d => .ok ((.rt d, p.1.2), p.2)) = o
          intro p'
          cases o with
          | ok p => exact fun H'' ad'' e w => p' H'' ad'' (ex.trans e) w
          | exc c fs μ'' => exact fun H'' ad'' e w => p' H'' ad'' (ex.trans e) w
          | stuck => exact p'
        refine ⟨ad', xs, env1, μ', sr1, wx, pb.bind.mono fun q H3 ad3 μ3 e3 w3 p3 σ3 sr3 => ?_⟩
        obtain ⟨f, env3⟩ := q
        obtain ⟨nw1, en1⟩ := nw
        obtain ⟨nw3, en3⟩ := e3.pre
        have sm3 : Same (Im H1 ad1 xs) (Im H3 ad3 xs) := fun a o h => e3.same a o (ex.same a o (sm a o h))
        have pre3 : ∃ nw, ad3 = ad1 ++ nw := ⟨nw1 ++ nw3, by rw [en3, en1, List.append_assoc]⟩
        cases f with
        | nx => exact ⟨ad3, env3, μ3, sm3, pre3, sr3, w3, p3⟩
        | ct => exact ⟨ad3, env3, μ3, sm3, pre3, sr3, w3, p3⟩
        | bk => exact (p3.ok w3) σ3 sr3
        | rt d => exact (p3.ok w3) σ3 sr3
    · exact p'.elim
  · have hn : i = items.length := by omega
    subst hn
    rw [List.drop_length] at p'
    unfold loopD at p'
    split at p'
    · rename_i hh
      obtain ⟨k1, _⟩ := wk items.length H' ad' xs μ' sm nw w' hh
      exact .inl ⟨k1 rfl, (p'.ok w') σ' sr'⟩
    · exact p'.elim
theorem ss_for (hp : PassesOwn (model X.prog X.w) X.A X.env X.xe) (hc : X.calm = true) (hi : SI X W tg it ei) (hg : SG X tg T) (hb : SSs X W bs body) (hs : ∀ x, foldedSetIterable it X.env x = pure x := by intro _; rfl) : SS X W (.For tg it bs [] pos) (sFor T ei body) :=
  ps_imp (ps_for hp hc hi hg hb hs) fun D σ H h => for_core h
end

/-! ### while -/
def whileN (t : EvT) (body : EvS) : Nat → EvS
  | 0, _, _ => .stuck
  | n + 1, env, μ => (t env μ).bind fun p => if p.1 = true then (body env p.2).bind fun q => match q.1.1 with
      | .nx => whileN t body n q.1.2 q.2
      | .ct => whileN t body n q.1.2 q.2
      | .bk => .ok ((.nx, q.1.2), q.2)
      | .rt d => .ok ((.rt d, q.1.2), q.2)
    else .ok ((.nx, env), p.2)
open Classical in
noncomputable def sWhile (t : EvT) (body : EvS) : EvS := fun env μ => if h : ∃ n, whileN t body n env μ ≠ .stuck then whileN t body h.choose env μ else .stuck
section
variable {X : Cx} {W : Wish} {c : Expr} {ec : EvT} {body : EvS} {bs : List Stmt} {pos : Pos}
theorem while_core {σ : L2.St} {H : Hp} {D : Ends} (h : tDS X.K W (sWhile ec body) D σ H) : tWhile (tDT X.K W ec) (tDS X.K W body) D σ H := by
  obtain ⟨ad, xs, env, μ, sr, w, p⟩ := h
  unfold sWhile at p
  split at p
  · rename_i hx
    refine ⟨fun m σ' H' => ∃ ad' env' μ', SRep X.K H' ad' xs σ' env' ∧ WOk X.K H' ad' xs μ' ∧ Post X.K xs W H' ad' (whileN ec body m env' μ') fun q H'' ad'' _ => AtEnd X.K xs D q H'' ad'', ⟨_, ad, env, μ, sr, w, p⟩, ?_⟩
    rintro m σ' H' ⟨ad', env', μ', sr', w', p'⟩
    cases m with
    | zero => exact p'.elim
    | succ m =>
      unfold whileN at p'
      refine ⟨ad', xs, env', μ', sr', w', p'.bind.mono fun b H1 ad1 μ1 e1 w1 p1 => ?_⟩
      dsimp only at p1
      cases b with
      | false => exact (p1.ok w1) σ' (sr'.ext e1)
      | true =>
        simp only [if_true] at p1 ⊢
        refine ⟨fun σ2 H2 => ∃ ad2 env2 μ2, SRep X.K H2 ad2 xs σ2 env2 ∧ WOk X.K H2 ad2 xs μ2 ∧ Post X.K xs W H2 ad2 (whileN ec body m env2 μ2) fun q H'' ad'' _ => AtEnd X.K xs D q H'' ad'', fun σ2 H2 h2 => ⟨m, Nat.lt_succ_self m, h2⟩, ?_⟩
        refine ⟨ad1, xs, env', μ1, sr'.ext e1, w1, p1.bind.mono fun q H3 ad3 μ3 e3 w3 p3 σ3 sr3 => ?_⟩
        obtain ⟨f, env3⟩ := q
        cases f with
        | nx => exact ⟨ad3, env3, μ3, sr3, w3, p3⟩
        | ct => exact ⟨ad3, env3, μ3, sr3, w3, p3⟩
        | bk => exact (p3.ok w3) σ3 sr3
        | rt d => exact (p3.ok w3) σ3 sr3
  · exact p.elim
theorem ss_while (hp : PassesOwn (model X.prog X.w) X.A X.env X.xe) (hc : ST X W c ec) (hb : SSs X W bs body) : SS X W (.While c bs [] pos) (sWhile ec body) := ps_imp (ps_while hp hc hb) fun D σ H h => while_core h
end
end Zd

set_option Elab.async false
set_option linter.all false
set_option maxRecDepth 100000
set_option maxHeartbeats 4000000
/-! Comprehensions, read by value. -/
namespace Zd
open PySem PySem.Spec PyProof.Rows L2

theorem wipe_none : ∀ {vs : List Nat} {σ : L2.St} {i : Nat}, i ∈ vs → i < σ.length → (L2.wipe σ vs)[i]? = some none
  | v :: vs, σ, i, h, hl => by
    unfold L2.wipe
    by_cases e : i = v
    · subst e
      rw [List.getElem?_set_self (by rw [L2.wipe_length]; exact hl)]
    · rw [List.getElem?_set_ne (Ne.symm e)]
      exact wipe_none ((List.mem_cons.mp h).resolve_left e) hl
theorem wipe_off : ∀ {vs : List Nat} {σ : L2.St} {i : Nat}, i ∉ vs → (L2.wipe σ vs)[i]? = σ[i]?
  | [], _, _, _ => rfl
  | v :: vs, σ, i, h => by
    simp only [List.mem_cons, not_or] at h
    unfold L2.wipe
    rw [List.getElem?_set_ne (Ne.symm h.1)]
    exact wipe_off h.2
theorem wipe_wipe (σ : L2.St) (vs : List Nat) : L2.wipe (L2.wipe σ vs) vs = L2.wipe σ vs := by
  apply List.ext_getElem?
  intro i
  by_cases h : i ∈ vs
  · by_cases hl : i < σ.length
    · rw [wipe_none h (by rw [L2.wipe_length]; exact hl), wipe_none h hl]
    · rw [List.getElem?_eq_none (by rw [L2.wipe_length, L2.wipe_length]; omega), List.getElem?_eq_none (by rw [L2.wipe_length]; omega)]
  · rw [wipe_off h]

open Classical in
noncomputable def compD (g : List (Nat × Cell)) (T : Tg) (tst : EvT) (elt : EvE) (env : Env) : List D → Store → Out (List D × Store)
  | [], μ => if Held g μ then .ok ([], μ) else .stuck
  | d :: ds, μ => if Held g μ then match bindT T d env with
    | some env1 => (tst env1 μ).bind fun p => if p.1 = true then (elt env1 p.2).bind fun q => (compD g T tst elt env ds q.2).bind fun r => .ok (q.1 :: r.1, r.2)
      else compD g T tst elt env ds p.2
    | none => .stuck
    else .stuck
def noExc {α : Type} : Out α → Out α
  | .ok a => .ok a
  | _ => .stuck
@[simp] theorem noExc_ok {α : Type} (a : α) : noExc (.ok a) = .ok a := rfl
theorem noExc_eq {α : Type} {o : Out α} {a : α} (h : noExc o = .ok a) : o = .ok a := by
  cases o with
  | ok b => exact h
  | _ => cases h
theorem bind_ok {α β : Type} {x : Out α} {f : α → Out β} {b : β} (h : x.bind f = .ok b) : ∃ a, x = .ok a ∧ f a = .ok b := by
  cases x with
  | ok a => exact ⟨a, rfl, h⟩
  | _ => cases h
def tYesE : EvT := fun _ μ => .ok (true, μ)
/-- a comprehension: its own slots vs, target, source, test, element -/
noncomputable def eLcD (vs : List Nat) (T : Tg) (ei : EvI) (tst : EvT) (elt : EvE) : EvA := fun env μ => (ei env μ).bind fun p =>
  if p.1.1.length ≤ sizeLine then noExc (compD p.1.2 T tst elt (wipeE env vs) p.1.1 p.2) else .stuck
/-- .. its items data -/
def asF (ea : EvA) : EvF := fun env μ => (ea env μ).bind fun p => match pdAll p.1 with
  | some ps => .ok (ps, p.2)
  | none => .stuck
noncomputable abbrev eLc (vs : List Nat) (T : Tg) (ei : EvI) (tst : EvT) (elt : EvE) : EvF := asF (eLcD vs T ei tst elt)
/-- the new list at p, of these values -/
def tDL (K : PySem.W.Frag) (W : Wish) (ev : EvA) : TE := fun σ H Q => ∃ ad xs env μ, SRep K H ad xs σ env ∧ WOk K H ad xs μ ∧
  Post K xs W H ad (ev env μ) fun ds H' ad' _ => ∀ p vs, H' p = none → RepAll K H' ad' xs ds vs → Q (.ref p) (upd H' p (.lst vs))
abbrev SL (X : Cx) (W : Wish) (e : Expr) (ev : EvA) : Prop := PE X e (tDL X.K W ev)
/-- a list of places that may change -/
def refAll : List D → Option (List Nat)
  | [] => some []
  | .ref l :: r => (refAll r).map (l :: ·)
  | _ => none
def eOwnL (ea : EvA) : EvE := fun env μ => (ea env μ).bind fun p => match refAll p.1 with
  | some ls => .ok (.ref p.2.length, p.2 ++ [.lls ls])
  | none => .stuck
theorem refAll_rep {K : PySem.W.Frag} {H : Hp} {ad xs : List Addr} : ∀ {ds : List D} {ls : List Nat} {vs : List V}, refAll ds = some ls → RepAll K H ad xs ds vs → ∃ as : List Addr, vs = as.map V.ref ∧ as.map some = ls.map (fun l => ad[l]?)
  | [], _, _, e, .nil => by cases e; exact ⟨[], rfl, rfl⟩
  | .ref l :: r, ls, _, e, .cons h t => by
    simp only [refAll, Option.map_eq_some_iff] at e
    obtain ⟨ms, e1, rfl⟩ := e
    obtain ⟨a, g, rfl⟩ := h
    obtain ⟨as, k1, k2⟩ := refAll_rep e1 t
    exact ⟨a :: as, by rw [k1]; rfl, by simp [k2, g]⟩
  | .pd _ :: _, _, _, e, _ => by cases e
  | .scr _ :: _, _, _, e, _ => by cases e
section
variable {K : PySem.W.Frag} {W : Wish} {ea : EvA} {ev : EvF} {σ : L2.St} {H : Hp} {Q : VK}
theorem asF_core (h : tDF K W (asF ea) σ H Q) : tDL K W ea σ H Q := by
  obtain ⟨ad, xs, env, μ, sr, w, p⟩ := h
  refine ⟨ad, xs, env, μ, sr, w, p.bind.mono fun ds H1 ad1 μ1 e1 w1 q r vs hp l => ?_⟩
  dsimp only at q
  cases hd : pdAll ds with
  | none => rw [hd] at q; exact q.elim
  | some ps =>
    rw [hd] at q
    exact q.ok w1 r vs hp (pdAll_rep hd l)
theorem ownL_core (h : tD K W (eOwnL ea) σ H Q) : tDL K W ea σ H Q := by
  obtain ⟨ad, xs, env, μ, sr, w, p⟩ := h
  refine ⟨ad, xs, env, μ, sr, w, p.bind.mono fun ds H1 ad1 μ1 e1 w1 q r vs hp l => ?_⟩
  dsimp only at q
  cases hd : refAll ds with
  | none => rw [hd] at q; exact q.elim
  | some ls =>
    rw [hd] at q
    obtain ⟨as, rfl, k2⟩ := refAll_rep hd l
    have hh : ls.map (fun l => ad1[l]?) = ls.map (fun l => (ad1 ++ [r])[l]?) := by
      refine List.map_congr_left fun l hl => ?_
      have m : ad1[l]? ∈ ls.map (fun l => ad1[l]?) := List.mem_map.mpr ⟨l, hl, rfl⟩
      rw [← k2] at m
      obtain ⟨x, _, hx⟩ := List.mem_map.mp m
      rw [List.getElem?_append_left (List.getElem?_eq_some_iff.mp hx.symm).1]
    obtain ⟨w2, e2⟩ := w1.alloc (o := .lst (as.map V.ref)) (c := .lls ls) hp ⟨as, upd_same, by rw [k2, hh]⟩
    exact q.ok_at e2 w2 _ ⟨r, by rw [← w1.len]; simp, rfl⟩
theorem frz_core (h : tD K W (eFrz ev) σ H Q) : tDF K W ev σ H Q := by
  obtain ⟨ad, xs, env, μ, sr, w, p⟩ := h
  refine ⟨ad, xs, env, μ, sr, w, p.bind.mono fun ds H1 ad1 μ1 e1 w1 q r vs hp l => ?_⟩
  obtain ⟨w2, e2, i2⟩ := w1.new (o := .lst vs) hp
  exact q.ok_at e2 w2 _ (.lst i2 (LyAll.grow e2.same l))
theorem own_core (h : tD K W (eOwn ev) σ H Q) : tDF K W ev σ H Q := by
  obtain ⟨ad, xs, env, μ, sr, w, p⟩ := h
  refine ⟨ad, xs, env, μ, sr, w, p.bind.mono fun ds H1 ad1 μ1 e1 w1 q r vs hp l => ?_⟩
  have es : Same (Im H1 ad1 xs) (Im (upd H1 r (.lst vs)) (ad1 ++ [r]) xs) := fun a u e => by
    obtain ⟨x1, x2, x3⟩ := Im_some e
    have ne : a ≠ r := ne_of_none x3 hp
    exact Im_of (by simp [x1, ne]) x2 ((upd_ne ne).trans x3)
  obtain ⟨w2, e2⟩ := w1.alloc (o := .lst vs) (c := .lst ds) hp ⟨vs, upd_same, LyAll.grow es l⟩
  exact q.ok_at e2 w2 _ ⟨r, by rw [← w1.len]; simp, rfl⟩
theorem set_core {n : Nat} {ea : EvE} {D : Ends} (h : tDS K W (sSet (.nm n) ea) D σ H) : tD K W ea σ H fun x H1 => gName n x σ H1 D.nx := by
  obtain ⟨ad, xs, env, μ, sr, w, p⟩ := h
  refine ⟨ad, xs, env, μ, sr, w, p.bind.mono fun d H1 ad1 μ1 e1 w1 p1 v r => ?_⟩
  dsimp only at p1
  cases hb : bindT (.nm n) d env with
  | none => rw [hb] at p1; exact p1.elim
  | some env' =>
    rw [hb] at p1
    unfold bindT at hb
    split at hb
    · cases hb
      exact (p1.ok w1) _ ((sr.ext e1).set r)
    · cases hb
end

/-- what a comprehension's new list D is while it grows: it stands apart -/
theorem WOk.enter {K : PySem.W.Frag} {H : Hp} {ad xs : List Addr} {μ : Store} {D : Addr} (w : WOk K H ad xs μ) (hD : H D = none) : WOk K (upd H D (.lst [])) ad (D :: xs) μ ∧ Same (Im H ad xs) (Im (upd H D (.lst [])) ad (D :: xs)) := by
  obtain ⟨h1, h2⟩ := Im_new (o := .lst []) w hD
  have es : Same (Im H ad xs) (Im (upd H D (.lst [])) ad (D :: xs)) := fun a u e => by
    obtain ⟨x1, x2, x3⟩ := Im_some e
    have ne : a ≠ D := ne_of_none x3 hD
    exact Im_of x1 (by simp [ne, x2]) ((upd_ne ne).trans x3)
  refine ⟨⟨w.len, ?_, fun a ha => ?_, fun l a c e1 e2 => ?_⟩, es⟩
  · obtain ⟨n1, n2, n3⟩ := List.nodup_append.mp w.nd
    refine List.nodup_append.mpr ⟨n1, List.nodup_cons.mpr ⟨h2, n2⟩, fun a ha b hb => ?_⟩
    rcases List.mem_cons.mp hb with rfl | hb
    · exact fun z => h1 (z ▸ ha)
    · exact n3 a ha b hb
  · by_cases e : a = D
    · exact ⟨_, by rw [e, upd_same]⟩
    · have ha' : a ∈ ad ∨ a ∈ xs := by
        rcases ha with ha | ha
        · exact .inl ha
        · exact .inr ((List.mem_cons.mp ha).resolve_left e)
      obtain ⟨o, ho⟩ := w.there a ha'
      exact ⟨o, (upd_ne e).trans ho⟩
  · have c1 := w.cell l a c e1 e2
    have ne : a ≠ D := fun z => h1 (z ▸ List.mem_of_getElem? e1)
    cases c with
    | lst ds =>
      obtain ⟨vs, k1, k2⟩ := c1
      exact ⟨vs, (upd_ne ne).trans k1, LyAll.grow es k2⟩
    | lls ls =>
      obtain ⟨as, k1, k2⟩ := c1
      exact ⟨as, (upd_ne ne).trans k1, k2⟩
    | dic kvs =>
      obtain ⟨ws, k1, k2, k3⟩ := c1
      exact ⟨ws, (upd_ne ne).trans k1, k2, LyAll.grow es k3⟩
    | dit kvs =>
      obtain ⟨ws, k1, k2, k3⟩ := c1
      exact ⟨ws, (upd_ne ne).trans k1, k2, LyAll.grow es k3⟩
    | tab p q =>
      obtain ⟨e0, ps, k1, k2, k3⟩ := c1
      exact ⟨e0, ps, (upd_ne ne).trans k1, k2, fun pos cv hc => let ⟨c, h1, h2⟩ := k3 pos cv hc; ⟨c, h1, es _ _ h2⟩⟩
/-- the list at D written while it stands apart -/
theorem WOk.atX {K : PySem.W.Frag} {H : Hp} {ad xs : List Addr} {μ : Store} {D : Addr} {o : HO} (w : WOk K H ad (D :: xs) μ) : WOk K (upd H D o) ad (D :: xs) μ ∧ Im (upd H D o) ad (D :: xs) = Im H ad (D :: xs) := by
  have em : Im (upd H D o) ad (D :: xs) = Im H ad (D :: xs) := by
    funext b
    unfold Im upd
    by_cases eb : b = D
    · subst eb; simp
    · simp [eb]
  have hD : D ∉ ad := fun z => (List.nodup_append.mp w.nd).2.2 D z D List.mem_cons_self rfl
  refine ⟨⟨w.len, w.nd, fun a ha => ?_, fun l a c e1 e2 => ?_⟩, em⟩
  · by_cases e : a = D
    · exact ⟨_, by rw [e, upd_same]⟩
    · obtain ⟨o', ho⟩ := w.there a ha
      exact ⟨o', (upd_ne e).trans ho⟩
  · have ne : a ≠ D := fun z => hD (z ▸ List.mem_of_getElem? e1)
    refine (w.cell l a c e1 e2).grow (ad1 := ad) (by rw [em]; exact fun _ _ h => h) ⟨[], by simp⟩ (upd_ne ne)
/-- behind it: the heap without it -/
def drp (H : Hp) (D : Addr) : Hp := fun a => if a = D then none else H a
theorem drp_upd {H : Hp} {D : Addr} {o : HO} (h : H D = some o) : upd (drp H D) D o = H := by
  funext b
  unfold upd drp
  by_cases e : b = D
  · subst e; simp [h]
  · simp [e]
theorem Im_drp {H : Hp} {ad xs : List Addr} {D : Addr} (hD : D ∉ ad) : Im (drp H D) ad xs = Im H ad (D :: xs) := by
  funext b
  unfold Im drp
  by_cases e : b = D
  · subst e; simp [hD]
  · simp [e]
theorem WOk.leave {K : PySem.W.Frag} {H : Hp} {ad xs : List Addr} {μ : Store} {D : Addr} (w : WOk K H ad (D :: xs) μ) : WOk K (drp H D) ad xs μ := by
  have hD : D ∉ ad := fun z => (List.nodup_append.mp w.nd).2.2 D z D List.mem_cons_self rfl
  obtain ⟨n1, n2, n3⟩ := List.nodup_append.mp w.nd
  have hx : D ∉ xs := (List.nodup_cons.mp n2).1
  have em := Im_drp (H := H) (xs := xs) hD
  refine ⟨w.len, List.nodup_append.mpr ⟨n1, (List.nodup_cons.mp n2).2, fun a ha b hb => n3 a ha b (List.mem_cons_of_mem _ hb)⟩, fun a ha => ?_, fun l a c e1 e2 => ?_⟩
  · have ne : a ≠ D := by
      rintro rfl
      exact ha.elim hD hx
    obtain ⟨o, ho⟩ := w.there a (ha.elim .inl fun z => .inr (List.mem_cons_of_mem _ z))
    exact ⟨o, by unfold drp; rw [if_neg ne]; exact ho⟩
  · have ne : a ≠ D := fun z => hD (z ▸ List.mem_of_getElem? e1)
    have c1 := w.cell l a c e1 e2
    have q : drp H D a = H a := by unfold drp; rw [if_neg ne]
    cases c with
    | lst ds =>
      obtain ⟨vs, k1, k2⟩ := c1
      exact ⟨vs, q.trans k1, by rw [em]; exact k2⟩
    | lls ls =>
      obtain ⟨as, k1, k2⟩ := c1
      exact ⟨as, q.trans k1, k2⟩
    | dic kvs =>
      obtain ⟨ws, k1, k2, k3⟩ := c1
      exact ⟨ws, q.trans k1, k2, by rw [em]; exact k3⟩
    | dit kvs =>
      obtain ⟨ws, k1, k2, k3⟩ := c1
      exact ⟨ws, q.trans k1, k2, by rw [em]; exact k3⟩
    | tab pq qq =>
      obtain ⟨e0, ps, k1, k2, k3⟩ := c1
      exact ⟨e0, ps, q.trans k1, k2, by rw [em]; exact k3⟩
theorem RepAll.to {K : PySem.W.Frag} {H H1 : Hp} {ad ad1 xs xs1 : List Addr} (s : Same (Im H ad xs) (Im H1 ad1 xs1)) (p : ∃ nw, ad1 = ad ++ nw) : ∀ {ds : List D} {vs : List V}, RepAll K H ad xs ds vs → RepAll K H1 ad1 xs1 ds vs
  | _, _, .nil => .nil
  | _, _, .cons h t => .cons (h.to s p) (RepAll.to s p t)
theorem RepAll.snoc {K : PySem.W.Frag} {H : Hp} {ad xs : List Addr} {d : D} {v : V} (r : Rep K H ad xs d v) : ∀ {ds : List D} {vs : List V}, RepAll K H ad xs ds vs → RepAll K H ad xs (ds ++ [d]) (vs ++ [v])
  | _, _, .nil => .cons r .nil
  | _, _, .cons h t => .cons h (RepAll.snoc r t)

/-- an evaluation that comes to an end gives any wish -/
theorem Post.of_ok {α : Type} {K : PySem.W.Frag} {xs : List Addr} {W : Wish} {H : Hp} {ad : List Addr} {o : Out (α × Store)} {a : α} {μ : Store} {Q : α → Hp → List Addr → Store → Prop} (e : o = .ok (a, μ))
    (k : ∀ H' ad', Ext H ad xs H' ad' → WOk K H' ad' xs μ → Q a H' ad' μ) : Post K xs W H ad o Q := by
  rw [e]
  exact k
section
variable {K : PySem.W.Frag} {W : Wish} {T : Tg} {ei : EvI} {tst : EvT} {elt : EvE} {vs : List Nat}
theorem lc_coreD (hT : ∀ i ∈ slotsT T, i ∈ vs) {σ : L2.St} {H : Hp} {Q : VK} (h : tDL K W (eLcD vs T ei tst elt) σ H Q) :
    tLc (tDI K W ei) (tDG K T) (tDT K W0 tst) (tD K W0 elt) vs σ H Q := by
  obtain ⟨ad, xs, env, μ, sr, w, p⟩ := h
  refine ⟨ad, xs, env, μ, sr, w, p.bind.mono fun s H1 ad1 μ1 e1 w1 p1 J wk => ?_⟩
  obtain ⟨items, g⟩ := s
  dsimp only at p1
  split at p1
  · rename_i hz
    intro D hD
    obtain ⟨w0, s0⟩ := w1.enter hD
    have hnD := Im_new (o := .lst []) w1 hD
    have srw : SRep K (upd H1 D (.lst [])) ad1 (D :: xs) (L2.wipe σ vs) (wipeE env vs) := ((sr.ext e1).wipe vs).to s0 ⟨[], by simp⟩
    cases ho : noExc (compD g T tst elt (wipeE env vs) items μ1) with
    | exc c fs μ' => rw [ho] at p1; cases hc : compD g T tst elt (wipeE env vs) items μ1 <;> rw [hc] at ho <;> cases ho
    | stuck => rw [ho] at p1; exact p1.elim
    | ok q =>
      obtain ⟨ds, μf⟩ := q
      rw [ho] at p1
      have hrun := noExc_eq ho
      have fin : ∀ H2 ad2, Same (Im H1 ad1 xs) (Im H2 ad2 (D :: xs)) → (∃ nw, ad2 = ad1 ++ nw) → (∀ a, a ∈ xs → H2 a = H1 a) → WOk K H2 ad2 (D :: xs) μf → ∀ vs', H2 D = some (.lst vs') → RepAll K H2 ad2 (D :: xs) ds vs' → Q (.ref D) H2 := by
        intro H2 ad2 sm pr kx w2 vs' hv r
        have hDa : D ∉ ad2 := fun z => (List.nodup_append.mp w2.nd).2.2 D z D List.mem_cons_self rfl
        have em := Im_drp (H := H2) (xs := xs) hDa
        have k := p1 (drp H2 D) ad2 ⟨by rw [em]; exact sm, pr, fun a ha => by
            have ne : a ≠ D := fun z => hnD.2 (z ▸ ha)
            unfold drp
            rw [if_neg ne]
            exact kx a ha⟩ w2.leave D vs' (by simp [drp]) (r.to (by rw [em]; exact fun _ _ h => h) ⟨[], by simp⟩)
        rw [drp_upd hv] at k
        exact k
      refine ⟨fun i m H' => m = items.length - i ∧ i ≤ items.length ∧ ∃ ad' μ' acc accv rest, H' D = some (.lst accv) ∧ RepAll K H' ad' (D :: xs) acc accv ∧ accv.length ≤ i ∧ Same (Im H1 ad1 xs) (Im H' ad' (D :: xs)) ∧ (∃ nw, ad' = ad1 ++ nw) ∧ (∀ a, a ∈ xs → H' a = H1 a) ∧ WOk K H' ad' (D :: xs) μ' ∧
        compD g T tst elt (wipeE env vs) (items.drop i) μ' = .ok (rest, μf) ∧ ds = acc ++ rest,
        ⟨items.length, by simp, Nat.zero_le _, ad1, μ1, [], [], ds, upd_same, .nil, Nat.le_refl _, s0, ⟨[], by simp⟩, fun a ha => upd_ne fun z => hnD.2 (z ▸ ha), w0, by rw [List.drop_zero]; exact hrun, rfl⟩, ?_⟩
      rintro i m H' ⟨rfl, hi, ad', μ', acc, accv, rest, hHD, racc, hal, sm, nw, kx, w', hr, hds⟩
      by_cases hlt : i < items.length
      · rw [List.drop_eq_getElem_cons hlt] at hr
        unfold compD at hr
        split at hr
        · rename_i hh
          have sm1 : Same (Im H1 ad1 xs) (Im H' ad' (D :: xs)) := sm
          obtain ⟨_, k2⟩ := wk i H' ad' (D :: xs) μ' sm nw w' hh
          obtain ⟨kg, ky⟩ := k2 items[i] (by simp [hlt])
          refine .inr ⟨kg, fun H2 => ∃ ad2 μ2 acc2 accv2 rest2, H2 D = some (.lst accv2) ∧ RepAll K H2 ad2 (D :: xs) acc2 accv2 ∧ accv2.length ≤ i + 1 ∧ Same (Im H1 ad1 xs) (Im H2 ad2 (D :: xs)) ∧ (∃ nw, ad2 = ad1 ++ nw) ∧ (∀ a, a ∈ xs → H2 a = H1 a) ∧ WOk K H2 ad2 (D :: xs) μ2 ∧
            compD g T tst elt (wipeE env vs) (items.drop (i + 1)) μ2 = .ok (rest2, μf) ∧ ds = acc2 ++ rest2, fun H2 h2 => ⟨items.length - (i + 1), by omega, rfl, hlt, h2⟩, fun x Hx y => ?_⟩
          obtain ⟨ex, wx, rx⟩ := ky x Hx y
          cases hb : bindT T items[i] (wipeE env vs) with
          | none => rw [hb] at hr; cases hr
          | some env1 =>
            rw [hb] at hr
            dsimp only at hr
            obtain ⟨⟨b, μ2⟩, ht, hr2⟩ := bind_ok hr
            obtain ⟨nw1, en1⟩ := nw
            have srx : SRep K Hx ad' (D :: xs) (L2.wipe σ vs) (wipeE env vs) := ((sr.ext e1).wipe vs).to (fun a o h => ex.same a o (sm a o h)) ⟨nw1, en1⟩
            refine ⟨ad', D :: xs, wipeE env vs, _, env1, srx, rx, hb, fun σ2 sr2 hw2 => ⟨?_, ?_⟩⟩
            · rw [hw2 vs hT, wipe_wipe]
            · refine ⟨ad', D :: xs, env1, μ', sr2, wx, Post.of_ok ht fun H3 ad3 e3 w3 => ?_⟩
              obtain ⟨nw3, en3⟩ := e3.pre
              have sm3 : Same (Im H1 ad1 xs) (Im H3 ad3 (D :: xs)) := fun a o h => e3.same a o (ex.same a o (sm a o h))
              have kx3 : ∀ a, a ∈ xs → H3 a = H1 a := fun a ha => ((e3.keepx a (List.mem_cons_of_mem _ ha)).trans (ex.keepx a (List.mem_cons_of_mem _ ha))).trans (kx a ha)
              have hD3 : H3 D = some (.lst accv) := ((e3.keepx D List.mem_cons_self).trans (ex.keepx D List.mem_cons_self)).trans hHD
              have r3 : RepAll K H3 ad3 (D :: xs) acc accv := RepAll.to (fun a o h => e3.same a o (ex.same a o h)) ⟨nw3, en3⟩ racc
              cases b with
              | false =>
                simp only [Bool.false_eq_true, if_false] at hr2 ⊢
                exact ⟨ad3, μ2, acc, accv, rest, hD3, r3, by omega, sm3, ⟨nw1 ++ nw3, by rw [en3, en1, List.append_assoc]⟩, kx3, w3, hr2, hds⟩
              | true =>
                simp only [if_true] at hr2 ⊢
                obtain ⟨⟨d4, μ4⟩, he, hr3⟩ := bind_ok hr2
                obtain ⟨⟨rest4, μ5⟩, hc4, hr4⟩ := bind_ok hr3
                cases hr4
                refine ⟨ad3, D :: xs, env1, μ2, sr2.ext e3, w3, Post.of_ok he fun H4 ad4 e4 w4 v4 rv4 => ?_⟩
                obtain ⟨nw4, en4⟩ := e4.pre
                have hD4 : H4 D = some (.lst accv) := (e4.keepx D List.mem_cons_self).trans hD3
                obtain ⟨w5, em5⟩ := w4.atX (o := .lst (accv ++ [v4]))
                have r5 : RepAll K (upd H4 D (.lst (accv ++ [v4]))) ad4 (D :: xs) (acc ++ [d4]) (accv ++ [v4]) := RepAll.to (by rw [em5]; exact fun _ _ h => h) ⟨[], by simp⟩ (RepAll.snoc rv4 (RepAll.ext e4 r3))
                refine ⟨accv, hD4, by omega, ad4, μ4, acc ++ [d4], accv ++ [v4], rest4, upd_same, r5, by simp; omega, ?_, ⟨nw1 ++ nw3 ++ nw4, by rw [en4, en3, en1]; simp⟩, fun a ha => ?_, w5, hc4, by rw [hds]; simp⟩
                · rw [em5]
                  exact fun a o h => e4.same a o (sm3 a o h)
                · have ne : a ≠ D := fun z => hnD.2 (z ▸ ha)
                  rw [upd_ne ne, e4.keepx a (List.mem_cons_of_mem _ ha)]
                  exact kx3 a ha
        · cases hr
      · have hn : i = items.length := by omega
        subst hn
        rw [List.drop_length] at hr
        unfold compD at hr
        split at hr
        · rename_i hh
          obtain ⟨k1, _⟩ := wk items.length H' ad' (D :: xs) μ' sm nw w' hh
          cases hr
          refine .inl ⟨k1 rfl, fin H' ad' sm nw kx w' accv hHD ?_⟩
          rw [hds, List.append_nil]
          exact racc
        · cases hr
  · exact p1.elim
end
abbrev STs (X : Cx) (W : Wish) (ifs : List Expr) (ev : EvT) : Prop := PTs X ifs (tDT X.K W ev)
section
variable {X : Cx} {W : Wish} {T : Tg} {ei : EvI} {tst : EvT} {elt : EvE} {tg it el c : Expr} {ifs : List Expr} {scope : Scope} {own : List (Str × Nat)} {pos spos py : Pos}
theorem pts_imp {t t' : TT} (h : PTs X ifs t) (k : ∀ σ H Q, t' σ H Q → t σ H Q) : PTs X ifs t' := ⟨fun pins s σ H Q I q => h.run pins s σ H Q I (k _ _ _ q)⟩
theorem sts_nil : STs X W [] tYesE := pts_imp pts_nil fun σ H Q h => by
  obtain ⟨ad, xs, env, μ, sr, w, p⟩ := h
  exact p.ok w
theorem sts_one (h : ST X W c tst) : STs X W [c] tst := pts_one h
theorem sl_lc (hc : X.calm = true) (hN : X.N.Nodup) (ok : BlkOk X.N X.env.scope scope own) (hT : decide (∀ i ∈ slotsT T, i ∈ own.map (·.2)) = true) (hi : SI X W tg it ei)
    (hg : ∀ (s : Shared) (H : Hp) (C : Addr) (cl : List (Str × Addr)) (fp : List Addr), SG (X.blk s H scope (compEnvC scope cl C X.env) fp) tg T) (ht : ∀ (s : Shared) (H : Hp) (C : Addr) (cl : List (Str × Addr)) (fp : List Addr), STs (X.blk s H scope (compEnvC scope cl C X.env) fp) W0 ifs tst)
    (he : ∀ (s : Shared) (H : Hp) (C : Addr) (cl : List (Str × Addr)) (fp : List Addr), SE (X.blk s H scope (compEnvC scope cl C X.env) fp) W0 el elt) (hs : ∀ x, foldedSetIterable it X.env x = pure x := by intro _; rfl) :
    SL X W (.ListComp el [⟨tg, it, ifs, 0⟩] scope pos) (eLcD (own.map (·.2)) T ei tst elt) :=
  pe_imp (pe_lc hc hN hi ok hg ht he hs) fun σ H Q h => lc_coreD (of_decide_eq_true hT) h
theorem sf_of_l {e : Expr} {ea : EvA} (h : SL X W e ea) : SF X W e (asF ea) := pe_imp h fun σ H Q h => asF_core h
theorem se_of_l {e : Expr} {ea : EvA} (h : SL X W e ea) : SE X W e (eOwnL ea) := pe_imp h fun σ H Q h => ownL_core h
/-- name = [..] -/
theorem ss_setLc (n : Nat) {y : Str} {ea : EvE} (hc : X.calm = true) (hN : X.N.Nodup) (ok : BlkOk X.N X.env.scope scope own) (hT : decide (∀ i ∈ slotsT T, i ∈ own.map (·.2)) = true) (hi : SI X W tg it ei)
    (hg : ∀ (s : Shared) (H : Hp) (C : Addr) (cl : List (Str × Addr)) (fp : List Addr), SG (X.blk s H scope (compEnvC scope cl C X.env) fp) tg T) (ht : ∀ (s : Shared) (H : Hp) (C : Addr) (cl : List (Str × Addr)) (fp : List Addr), STs (X.blk s H scope (compEnvC scope cl C X.env) fp) W0 ifs tst)
    (he : ∀ (s : Shared) (H : Hp) (C : Addr) (cl : List (Str × Addr)) (fp : List Addr), SE (X.blk s H scope (compEnvC scope cl C X.env) fp) W0 el elt)
    (k : ∀ σ H Q, tD X.K W ea σ H Q → tDL X.K W (eLcD (own.map (·.2)) T ei tst elt) σ H Q) (hsw : swapsWith (.ListComp el [⟨tg, it, ifs, 0⟩] scope pos) (some (.Name y py)) spos.line X.env = pure true)
    (hy : X.N[n]? = some y := by rfl) (hyl : X.env.scope.names.lookup y = some .local := by rfl) (hs : ∀ x, foldedSetIterable it X.env x = pure x := by intro _; rfl) :
    SS X W (.Assign [.Name y py] (.ListComp el [⟨tg, it, ifs, 0⟩] scope pos) spos) (sSet (.nm n) ea) :=
  ps_imp (ps_setLc hc hN hy hyl hsw hi ok hg ht he hs) fun D σ H h => lc_coreD (of_decide_eq_true hT) (k _ _ _ (set_core h))
end
section
variable {K : PySem.W.Frag} {W : Wish} {ea : EvA}
theorem k_frz : ∀ σ H Q, tD K W (eFrz (asF ea)) σ H Q → tDL K W ea σ H Q := fun σ H Q h => asF_core (frz_core h)
theorem k_own : ∀ σ H Q, tD K W (eOwn (asF ea)) σ H Q → tDL K W ea σ H Q := fun σ H Q h => asF_core (own_core h)
theorem k_lls : ∀ σ H Q, tD K W (eOwnL ea) σ H Q → tDL K W ea σ H Q := fun σ H Q h => ownL_core h
end
end Zd

set_option Elab.async false
set_option linter.all false
set_option maxRecDepth 100000
set_option maxHeartbeats 4000000
/-! Calls of defs, read by value; the text of a value. -/
namespace Zd
open PySem PySem.Spec PyProof.Rows L2

/-! ### a def's promise where nothing is being shown -/
structure Rm (k : Nat) (A : Around) : Prop where
  rm : Room k A
  gd : A.guards = some []
theorem Rm.mono {j k : Nat} {A : Around} (r : Rm k A) (h : j ≤ k) : Rm j A := ⟨r.rm.mono h, r.gd⟩
theorem Rm.deep {k : Nat} {A : Around} (r : Rm (k + 1) A) (env : PySem.Env) : Rm k (A.deeper env) := ⟨r.rm.deeper env, r.gd⟩
abbrev Sq := List V → Hp → VK → Prop
structure FK (P : Program) (w : World) (K : PySem.W.Frag) (mg : Str → Option Value) (base : Heap) (k : Nat) (f : Addr) (fd : FuncData) (ps : List Str) (sp : Sq) : Prop where
  len : ∀ vs H Q, sp vs H Q → vs.length = ps.length
  run : ∀ (A : Around) (outer : List PySem.Env) (s : Shared) (H : Hp) (args : Args) (us : List Value) (vs : List V) (Q : VK), Rm k A → Env0 P w K mg base A outer s H → BindsTo s fd args (ps.zip us) → Vals vs us → sp vs H Q →
    codeAny (model P w) A (.call (.ref f) args) (CR CX0 outer P w H s Q E0) s
section
variable {P : Program} {w : World} {K : PySem.W.Frag} {mg : Str → Option Value} {base : Heap}
theorem FK.mono {j k : Nat} {f : Addr} {fd : FuncData} {ps : List Str} {sp : Sq} (F : FK P w K mg base j f fd ps sp) (h : j ≤ k) : FK P w K mg base k f fd ps sp :=
  ⟨F.len, fun A outer s H args us vs Q r => F.run A outer s H args us vs Q (r.mono h)⟩
/-- a def by its body -/
theorem fk_of {x qual : Str} {st : Stmt} {f : Addr} {fd : FuncData} {N ps : List Str} {k : Nat} {sp : Sq} (F : Fun K x qual st f fd) (S : FnScope N ps (defScope st)) (len : ∀ vs H Q, sp vs H Q → vs.length = ps.length)
    (hb : ∀ (cdv : Value) (A : Around) (outer : List PySem.Env) (s : Shared) (H : Hp) (vs : List V) (Q : VK), Rm k (A.deeper (envOfC qual (defScope st) s.heap.objs.size f cdv)) → sp vs H Q →
      ∃ t, PSs (cxOf CX0 P w K mg base N qual (defScope st) f cdv A outer s H E0) (defBody st) t ∧ t { nx := fun _ H' => Q .non H', rt := Q } (start N vs) H) : FK P w K mg base (k + 1) f fd ps sp := by
  obtain ⟨c1, c2, c3, c4, c5, c6, cdv, c8, c9, rfl, lk, hcd⟩ := F.ex
  refine ⟨len, fun A outer s H args us vs Q rr e0 bd rv hs => ?_⟩
  have nvs := len _ _ _ hs
  have keep : ∀ b o, base.get? b = some o → s.heap.get? b = some o := fun b o e => (e0.bs b o e).1
  have kin : K.In s.heap := e0.mod.kin.keeps keep
  have nol : s.heap.NoLimit := e0.mod.nolimit.keeps keep
  have kinds : ∀ y ∈ ps.zip us, (defScope st).names.lookup y.1 = some .local ∨ ((defScope st).names.lookup y.1 = some .cell ∧ ((cellsFrom (s.heap.objs.size + 1) (defScope st).names []).lookup y.1).isSome = true) := by
    rintro ⟨n, v⟩ hy
    cases S.par n (List.of_mem_zip hy).1 with
    | inl q => exact .inl q
    | inr q => exact .inr ⟨q, PySem.W.cellsFrom_some _ _ _ (.inl q)⟩
  apply codeAny_call_function rr.rm.depth (kin _ _ lk) rfl S.co S.gen rfl (PySem.W.codeRec_of kin hcd)
  apply bd
  apply wpAny_newFunctionEnv_cells S.kind kinds
  intro env henv s1 ic
  subst henv
  refine ⟨nol.keeps ic.toInCall.keep, codeAny_func ?_⟩
  obtain ⟨t, ht, hq⟩ := hb cdv A outer s H vs Q (rr.deep _) hs
  have I0 := inv_start (CX := CX0) (E := E0) (P := P) (w := w) (f := f) (cd := cdv) (qual := qual) S rr.rm.hd e0 nvs rv ic
  refine wpAny_mono (ht.run [] s1 (start N vs) H _ I0 hq) (fun fl s2 h2 => ?_) (fun e s2 h2 => h2)
  cases fl with
  | next =>
    obtain ⟨τ, H', J, q⟩ := h2
    exact ⟨.non, H', J.os, J.bare, J.base, J.hok, rfl, q⟩
  | ret u =>
    obtain ⟨v, τ, H', J, rv', q⟩ := h2
    exact ⟨v, H', J.os, J.bare, J.base, J.hok, rv', q⟩
  | brk => exact h2.elim fun _ h => h.elim fun _ h => h.2.elim
  | cont => exact h2.elim fun _ h => h.elim fun _ h => h.2.elim
end
/-- a def that may be called by its name -/
structure CalK (P : Program) (w : World) (K : PySem.W.Frag) (mg : Str → Option Value) (base : Heap) (k : Nat) (x : Str) (sp : Sq) : Prop where
  ex : ∃ (f : Addr) (fd : FuncData) (ps : List Str), FK P w K mg base k f fd ps sp ∧ mg x = some (.ref f) ∧ PySem.W.keepIn K (.ref f) = true ∧ Binds K fd ps []
def tCallK (sp : Sq) (t : TA) : TE := fun σ H Q => t σ H fun vs H1 => sp vs H1 Q
section
variable {X : Cx} {k : Nat} {x : Str} {sp : Sq} {p pos : Pos} {e : Expr} {es : List Expr} {t : TA}
theorem run_fk {pins : List (Addr × Obj)} {σ : L2.St} {H : Hp} {s : Shared} {Q : VK} {us : List Value} {vs : List V} {f : Addr} {fd : FuncData} {ps : List Str} (F : FK X.prog X.w X.K X.mg X.base k f fd ps sp) (hr : Rm k X.A) (hb : Binds X.K fd ps [])
    (I : Inv X pins σ H s) (r : Vals vs us) (h : sp vs H Q) : wpAny (model X.prog X.w) X.A (call (.ref f) us) (EP X pins σ Q) X.xe s := by
  have nus : (us ++ []).length = ps.length := by rw [List.append_nil, ← r.length]; exact F.len _ _ _ h
  have bd := hb s us I.kIn nus
  rw [List.append_nil] at bd
  refine wpAny_call (codeAny_mono (F.run X.A X.stack s H ⟨us, []⟩ us vs Q hr I.env0 bd r h) fun rs s2 h2 => ?_)
  match rs, h2 with
  | .ok (.ret u), h2 => exact I.after h2
theorem pe_callK (c : CalK X.prog X.w X.K X.mg X.base k x sp) (hr : Rm k X.A) (hg : Gl X x) (ha : PA X (e :: es) t) (hd : (x == ("__debug__" : Str)) = false := by decide)
    (he : starEach (e :: es) X.env = (false, eval e X.env) :: starEach es X.env := by rfl) (hpl : (backTo pos (starEach es X.env)).any (·.1) = false := by rfl) : PE X (.Call (.Name x p) (e :: es) [] pos) (tCallK sp t) := by
  obtain ⟨f, fd, ps, F, hm, hk, hb⟩ := c.ex
  refine ⟨fun pins s σ H Q I h => wpAny_Call_Name_kw (ld_glob I hg hm ?_ hd)⟩
  exact PySem.W.callWith_K (h₀ := X.base) I.ok.mod.kin hk (thn (ha.run pos pins s σ H _ I h) fun us s1 ⟨vs, H1, I1, r, q⟩ => ⟨I1.kIn, run_fk F hr hb I1 r q⟩) he hpl
theorem pe_callK0 (c : CalK X.prog X.w X.K X.mg X.base k x sp) (hr : Rm k X.A) (hg : Gl X x) (hd : (x == ("__debug__" : Str)) = false := by decide) : PE X (.Call (.Name x p) [] [] pos) (tCallK sp tNil) := by
  obtain ⟨f, fd, ps, F, hm, hk, hb⟩ := c.ex
  refine ⟨fun pins s σ H Q I h => wpAny_Call_Name_kw (ld_glob I hg hm ?_ hd)⟩
  exact PySem.W.callWith_K0 I.kIn hk (run_fk (us := []) F hr hb I .nil h)
end

/-! ### what a def computes -/
/-- from data alone -/
abbrev FnP := List PyData → Out PyData
/-- with the store -/
abbrev FnS := List D → Store → Out (D × Store)
def frzs (μ : Store) : List Nat → Option (List PyData)
  | [] => some []
  | l :: r => match μ[l]? with
    | some (.lst ds) => (frzs μ r).map (.list ds :: ·)
    | _ => none
def frz (μ : Store) : D → Option PyData
  | .pd d => some d
  | .ref l => match μ[l]? with
    | some (.lst ds) => some (.list ds)
    | some (.lls ls) => (frzs μ ls).map .list
    | _ => none
  | .scr _ => none
def startE (m : Nat) (ds : List D) : Env := ds.map some ++ List.replicate (m - ds.length) none
/-- m slots, n parameters -/
def fnP (n m : Nat) (ev : EvS) : FnP := fun ps => if ps.length = n then
  match ev (startE m (ps.map .pd)) [] with
  | .ok ((.rt d, _), μ) => match frz μ d with
    | some r => .ok r
    | none => .stuck
  | .ok ((.nx, _), _) => .ok .none
  | _ => .stuck
  else .stuck
/-- places made within stay -/
def fnL (n m : Nat) (ev : EvS) : FnS := fun ds μ => if ds.length = n then
  match ev (startE m ds) μ with
  | .ok ((.rt d, _), μ') => .ok (d, μ')
  | .ok ((.nx, _), μ') => .ok (.pd .none, μ')
  | _ => .stuck
  else .stuck
def cloC (n : Nat) : Cell → Bool
  | .lls ls => ls.all fun l => decide (l < n)
  | _ => true
def frzO (n : Nat) (μ : Store) : D → Option D
  | .ref l => if l < n then some (.ref l) else match μ[l]? with
    | some (.lst ds) => some (.pd (.list ds))
    | _ => none
  | .pd d => some (.pd d)
  | .scr _ => none
/-- places made within are dropped -/
def fnS (n m : Nat) (ev : EvS) : FnS := fun ds μ => (fnL n m ev ds μ).bind fun p => match frzO μ.length p.2 p.1 with
  | some d => if (p.2.take μ.length).all (cloC μ.length) = true then .ok (d, p.2.take μ.length) else .stuck
  | none => .stuck
def spP (K : PySem.W.Frag) (n : Nat) (F : FnP) : Sq := fun vs H Q => ∃ xs ps r, vs.length = n ∧ xs.Nodup ∧ (∀ a, a ∈ xs → ∃ o, H a = some o) ∧ LyAll K (Im H [] xs) vs ps ∧ F ps = .ok r ∧
  ∀ H' v, Same (Im H [] xs) (Im H' [] xs) → (∀ a, a ∈ xs → H' a = H a) → Ly K (Im H' [] xs) v r → Q v H'
def spS (K : PySem.W.Frag) (n : Nat) (G : FnS) : Sq := fun vs H Q => ∃ ad xs μ ds, vs.length = n ∧ WOk K H ad xs μ ∧ RepAll K H ad xs ds vs ∧
  Post K xs W0 H ad (G ds μ) fun d H' ad' _ => ∀ v, Rep K H' ad' xs d v → Q v H'
section
variable {K : PySem.W.Frag} {H H' : Hp} {ad ad' xs : List Addr} {μ μ' : Store}
theorem Im_nil_le {ad xs : List Addr} : Same (Im H ad xs) (Im H [] xs) := fun a o h => by
  obtain ⟨h1, h2, h3⟩ := Im_some h
  exact Im_of (by simp) h2 h3
theorem Im_pre_le {ad nw xs : List Addr} : Same (Im H (ad ++ nw) xs) (Im H ad xs) := fun a o h => by
  obtain ⟨h1, h2, h3⟩ := Im_some h
  exact Im_of (fun z => h1 (List.mem_append_left _ z)) h2 h3
theorem frzs_ly (w : WOk K H ad xs μ) : ∀ {ls : List Nat} {as : List Addr} {rs : List PyData}, frzs μ ls = some rs → as.map some = ls.map (fun l => ad[l]?) → ∀ {zs : List Addr}, (∀ a o, H a = some o → a ∉ xs → zs = zs) → LyAll K (Im H [] xs) (as.map V.ref) rs
  | [], [], _, e, _, _, _ => by cases e; exact .nil
  | [], _ :: _, _, _, e, _, _ => by simp at e
  | _ :: _, [], _, _, e, _, _ => by simp at e
  | l :: ls, a :: as, rs, e, g, zs, hz => by
    simp only [List.map_cons, List.cons.injEq] at g
    unfold frzs at e
    cases hc : μ[l]? with
    | none => rw [hc] at e; cases e
    | some c =>
      cases c with
      | lst ds =>
        rw [hc] at e
        simp only [Option.map_eq_some_iff] at e
        obtain ⟨qs, e1, rfl⟩ := e
        obtain ⟨vs, k1, k2⟩ := w.cell l a _ g.1.symm hc
        have nx : a ∉ xs := fun z => (List.nodup_append.mp w.nd).2.2 a (List.mem_of_getElem? g.1.symm) a z rfl
        exact .cons (.lst (Im_of (by simp) nx k1) (LyAll.grow Im_nil_le k2)) (frzs_ly w e1 g.2 hz)
      | _ => rw [hc] at e; cases e
theorem frz_ly (w : WOk K H ad xs μ) {d : D} {r : PyData} {v : V} (e : frz μ d = some r) (q : Rep K H ad xs d v) : Ly K (Im H [] xs) v r := by
  cases d with
  | pd d => cases e; exact Ly.grow Im_nil_le q
  | ref l =>
    obtain ⟨a, g, rfl⟩ := q
    have nx : a ∉ xs := fun z => (List.nodup_append.mp w.nd).2.2 a (List.mem_of_getElem? g) a z rfl
    unfold frz at e
    cases hc : μ[l]? with
    | none => simp [hc] at e
    | some c =>
      cases c with
      | lst ds =>
        simp [hc] at e
        subst e
        obtain ⟨vs, k1, k2⟩ := w.cell l a _ g hc
        exact .lst (Im_of (by simp) nx k1) (LyAll.grow Im_nil_le k2)
      | lls ls =>
        simp [hc] at e
        obtain ⟨rs, e1, rfl⟩ := e
        obtain ⟨as, k1, k2⟩ := w.cell l a _ g hc
        exact .lst (Im_of (by simp) nx k1) (frzs_ly w e1 k2 (zs := []) fun _ _ _ _ => rfl)
      | _ => simp [hc] at e
  | scr ns => cases e
/-- places are dropped -/
theorem WOk.cut {n : Nat} (e : Ext H ad xs H' ad') (w : WOk K H' ad' xs μ') (hn : n = ad.length) (hc : (μ'.take n).all (cloC n) = true) : WOk K H' ad xs (μ'.take n) ∧ Ext H ad xs H' ad := by
  subst hn
  obtain ⟨nw, rfl⟩ := e.pre
  have hl : ad.length ≤ μ'.length := by rw [← w.len]; simp
  refine ⟨⟨by simp; omega, ?_, fun a ha => w.there a ?_, fun l a c g1 g2 => ?_⟩, ⟨fun a o h => Im_pre_le _ _ (e.same a o h), ⟨[], by simp⟩, e.keepx⟩⟩
  · have nd := w.nd
    rw [List.append_assoc, List.nodup_append] at nd
    rw [List.nodup_append]
    refine ⟨nd.1, (List.nodup_append.mp nd.2.1).2.1, fun a ha b hb => nd.2.2 a ha b (List.mem_append_right _ hb)⟩
  · exact ha.elim (fun z => .inl (List.mem_append_left _ z)) .inr
  · have ll : l < ad.length := (List.getElem?_eq_some_iff.mp g1).1
    rw [List.getElem?_take_of_lt ll] at g2
    have g3 : (ad ++ nw)[l]? = some a := by rw [List.getElem?_append_left ll]; exact g1
    have k := w.cell l a c g3 g2
    cases c with
    | lst ds =>
      obtain ⟨vs, k1, k2⟩ := k
      exact ⟨vs, k1, LyAll.grow Im_pre_le k2⟩
    | lls ls =>
      obtain ⟨as, k1, k2⟩ := k
      refine ⟨as, k1, k2.trans ?_⟩
      have hm : Cell.lls ls ∈ μ'.take ad.length := List.mem_of_getElem? (i := l) (by rw [List.getElem?_take_of_lt ll]; exact g2)
      have hcl := List.all_eq_true.mp hc _ hm
      exact List.map_congr_left fun i hi => List.getElem?_append_left (of_decide_eq_true (List.all_eq_true.mp hcl i hi))
    | dic kvs =>
      obtain ⟨ws, k1, k2, k3⟩ := k
      exact ⟨ws, k1, k2, LyAll.grow Im_pre_le k3⟩
    | dit kvs =>
      obtain ⟨ws, k1, k2, k3⟩ := k
      exact ⟨ws, k1, k2, LyAll.grow Im_pre_le k3⟩
    | tab p q =>
      obtain ⟨e0, ps, k1, k2, k3⟩ := k
      exact ⟨e0, ps, k1, k2, fun pos cv hc => let ⟨c, h1, h2⟩ := k3 pos cv hc; ⟨c, h1, Im_pre_le _ _ h2⟩⟩
theorem srep_start {N : List Str} {ds : List D} {vs : List V} (h : RepAll K H ad xs ds vs) (hl : vs.length ≤ N.length) : SRep K H ad xs (L2.start N vs) (startE N.length ds) := by
  have el := RepAll.length h
  refine ⟨by unfold L2.start startE; simp; omega, fun i d e => ?_⟩
  unfold startE at e
  by_cases hi : i < ds.length
  · rw [List.getElem?_append_left (by simpa using hi), List.getElem?_map] at e
    cases hd : ds[i]? with
    | none => rw [hd] at e; cases e
    | some d' =>
      rw [hd] at e
      cases e
      obtain ⟨v, h1, h2⟩ := RepAll.get h hd
      refine ⟨v, ?_, h2⟩
      unfold L2.start
      rw [List.getElem?_append_left (by simp; omega), List.getElem?_map, h1]
      rfl
  · rw [List.getElem?_append_right (by simpa using hi), List.getElem?_replicate] at e
    split at e <;> cases e
end
section
variable {P : Program} {w : World} {K : PySem.W.Frag} {mg : Str → Option Value} {base : Heap}
theorem scope_le {N ps : List Str} {sc : Scope} (S : FnScope N ps sc) : ps.length ≤ N.length := by
  have := congrArg List.length S.pre
  rw [List.length_take] at this
  omega
/-- a def from data alone -/
theorem fk_P {x qual : Str} {st : Stmt} {f : Addr} {fd : FuncData} {N ps : List Str} {k : Nat} {ev : EvS} (F : Fun K x qual st f fd) (S : FnScope N ps (defScope st))
    (hb : ∀ (cdv : Value) (A : Around) (outer : List PySem.Env) (s : Shared) (H : Hp), Rm k (A.deeper (envOfC qual (defScope st) s.heap.objs.size f cdv)) → SSs (cxOf CX0 P w K mg base N qual (defScope st) f cdv A outer s H E0).nox W0 (defBody st) ev) :
    FK P w K mg base (k + 1) f fd ps (spP K ps.length (fnP ps.length N.length ev)) := by
  refine fk_of F S (fun vs H Q h => ?_) fun cdv A outer s H vs Q hr h => ⟨_, PSs.nox (hb cdv A outer s H hr), ?_⟩
  · obtain ⟨_, _, _, e, _⟩ := h
    exact e
  · obtain ⟨xs, qs, r, hl, nd, th, ly, hF, q⟩ := h
    have wk : WOk K H [] xs [] := ⟨rfl, by simpa using nd, fun a ha => th a (by simpa using ha), fun l a c e => by simp at e⟩
    refine ⟨[], xs, startE N.length (qs.map .pd), [], srep_start (repAll_pd ly) (by rw [hl]; exact scope_le S), wk, ?_⟩
    unfold fnP at hF
    split at hF
    · revert hF
      cases ev (startE N.length (qs.map .pd)) [] with
      | ok p =>
        obtain ⟨⟨fl, env⟩, μ'⟩ := p
        intro hF H' ad' e w' σ' sr'
        have sm : Same (Im H [] xs) (Im H' [] xs) := fun a o z => Im_nil_le _ _ (e.same a o z)
        cases fl with
        | nx =>
          cases hF
          exact q H' _ sm e.keepx .non
        | rt d =>
          intro v rv
          dsimp only at hF
          cases hf : frz μ' d with
          | none => rw [hf] at hF; cases hF
          | some r' =>
            rw [hf] at hF
            cases hF
            exact q H' v sm e.keepx (frz_ly w' hf rv)
        | bk => cases hF
        | ct => cases hF
      | exc c fs μ' => intro hF; cases hF
      | stuck => intro hF; cases hF
    · cases hF
theorem fnL_post {xs ad : List Addr} {H : Hp} {n m : Nat} {ev : EvS} {ds : List D} {μ : Store} {Q : VK} (h : Post K xs W0 H ad (fnL n m ev ds μ) fun d H' ad' _ => ∀ v, Rep K H' ad' xs d v → Q v H') :
    Post K xs W0 H ad (ev (startE m ds) μ) fun q H' ad' _ => AtEnd K xs { nx := fun _ H' => Q .non H', rt := Q } q H' ad' := by
  unfold fnL at h
  split at h
  · revert h
    cases ev (startE m ds) μ with
    | ok p =>
      obtain ⟨⟨fl, env⟩, μ'⟩ := p
      intro h H' ad' e w' σ' sr'
      cases fl with
      | nx => exact h H' ad' e w' _ .non
      | rt d => exact h H' ad' e w'
      | bk => exact h.elim
      | ct => exact h.elim
    | exc c fs μ' => exact fun h => h.elim
    | stuck => exact fun h => h.elim
  · exact h.elim
theorem fk_L {x qual : Str} {st : Stmt} {f : Addr} {fd : FuncData} {N ps : List Str} {k : Nat} {ev : EvS} (F : Fun K x qual st f fd) (S : FnScope N ps (defScope st))
    (hb : ∀ (cdv : Value) (A : Around) (outer : List PySem.Env) (s : Shared) (H : Hp), Rm k (A.deeper (envOfC qual (defScope st) s.heap.objs.size f cdv)) → SSs (cxOf CX0 P w K mg base N qual (defScope st) f cdv A outer s H E0).nox W0 (defBody st) ev) :
    FK P w K mg base (k + 1) f fd ps (spS K ps.length (fnL ps.length N.length ev)) := by
  refine fk_of F S (fun vs H Q h => ?_) fun cdv A outer s H vs Q hr h => ⟨_, PSs.nox (hb cdv A outer s H hr), ?_⟩
  · obtain ⟨_, _, _, _, e, _⟩ := h
    exact e
  · obtain ⟨ad, xs, μ, ds, hl, wk, ra, hp⟩ := h
    exact ⟨ad, xs, startE N.length ds, μ, srep_start ra (by rw [hl]; exact scope_le S), wk, fnL_post hp⟩
theorem rep_cut {H H' : Hp} {ad ad' xs : List Addr} {μ' : Store} {n : Nat} {d d' : D} {v : V} (e : Ext H ad xs H' ad') (w : WOk K H' ad' xs μ') (hn : n = ad.length) (hf : frzO n μ' d = some d') (rv : Rep K H' ad' xs d v) : Rep K H' ad xs d' v := by
  obtain ⟨nw, rfl⟩ := e.pre
  cases d with
  | pd d =>
    simp only [frzO, Option.some.injEq] at hf
    subst hf
    exact Ly.grow Im_pre_le rv
  | scr ns => simp [frzO] at hf
  | ref l =>
    obtain ⟨a, g, rfl⟩ := rv
    by_cases hlt : l < n
    · simp only [frzO, hlt, if_true, Option.some.injEq] at hf
      subst hf
      rw [List.getElem?_append_left (by omega)] at g
      exact ⟨a, g, rfl⟩
    · simp only [frzO, hlt, if_false] at hf
      have nd := w.nd
      have na : a ∉ ad := fun z => by
        have nd1 := (List.nodup_append.mp nd).1
        rw [List.getElem?_append_right (by omega)] at g
        exact (List.nodup_append.mp nd1).2.2 a z a (List.mem_of_getElem? g) rfl
      have nx : a ∉ xs := fun z => (List.nodup_append.mp nd).2.2 a (List.mem_of_getElem? g) a z rfl
      cases hcell : μ'[l]? with
      | none => simp [hcell] at hf
      | some c =>
        cases c with
        | lst es =>
          simp only [hcell, Option.some.injEq] at hf
          subst hf
          obtain ⟨vs, k1, k2⟩ := w.cell l a _ g hcell
          exact .lst (Im_of na nx k1) (LyAll.grow Im_pre_le k2)
        | _ => simp [hcell] at hf
theorem fnS_post {xs ad : List Addr} {H : Hp} {n m : Nat} {ev : EvS} {ds : List D} {μ : Store} {Q : VK} (hl : ad.length = μ.length) (h : Post K xs W0 H ad (fnS n m ev ds μ) fun d H' ad' _ => ∀ v, Rep K H' ad' xs d v → Q v H') :
    Post K xs W0 H ad (fnL n m ev ds μ) fun d H' ad' _ => ∀ v, Rep K H' ad' xs d v → Q v H' := by
  unfold fnS at h
  revert h
  cases fnL n m ev ds μ with
  | ok p =>
    intro h H' ad' e w' v rv
    obtain ⟨d, μ'⟩ := p
    simp only [Out.ok_bind] at h
    cases hf : frzO μ.length μ' d with
    | none => rw [hf] at h; exact h.elim
    | some d' =>
      rw [hf] at h
      dsimp only at h
      by_cases hc : (μ'.take μ.length).all (cloC μ.length) = true
      · rw [if_pos hc] at h
        obtain ⟨w2, e2⟩ := WOk.cut e w' hl.symm hc
        exact h H' ad e2 w2 v (rep_cut e w' hl.symm hf rv)
      · rw [if_neg hc] at h
        exact h.elim
  | exc c fs μ' => exact fun h => h
  | stuck => exact fun h => h
theorem fk_S {x qual : Str} {st : Stmt} {f : Addr} {fd : FuncData} {N ps : List Str} {k : Nat} {ev : EvS} (F : Fun K x qual st f fd) (S : FnScope N ps (defScope st))
    (hb : ∀ (cdv : Value) (A : Around) (outer : List PySem.Env) (s : Shared) (H : Hp), Rm k (A.deeper (envOfC qual (defScope st) s.heap.objs.size f cdv)) → SSs (cxOf CX0 P w K mg base N qual (defScope st) f cdv A outer s H E0).nox W0 (defBody st) ev) :
    FK P w K mg base (k + 1) f fd ps (spS K ps.length (fnS ps.length N.length ev)) := by
  refine ⟨fun vs H Q h => ?_, fun A outer s H args us vs Q hr e0 hb2 rv h => ?_⟩
  · obtain ⟨_, _, _, _, e, _⟩ := h
    exact e
  · obtain ⟨ad, xs, μ, ds, hl, wk, ra, hp⟩ := h
    exact (fk_L F S hb).run A outer s H args us vs Q hr e0 hb2 rv ⟨ad, xs, μ, ds, hl, wk, ra, fnS_post wk.len hp⟩
end

/-! ### the calls -/
def isVal : D → Bool
  | .ref _ => false
  | _ => true
mutual
/-- no list within -/
def noL : PyData → Bool
  | .list _ => false
  | .tuple ds => noLs ds
  | .dict _ => false
  | _ => true
def noLs : List PyData → Bool
  | [] => true
  | d :: ds => noL d && noLs ds
end
def eCallP (F : FnP) (ea : EvA) : EvE := fun env μ => (ea env μ).bind fun p => match derefs p.2 p.1 with
  | some ps => match F ps with
    | .ok r => if p.1.all isVal || noL r then .ok (.pd r, p.2) else .stuck
    | _ => .stuck
  | none => .stuck
def eCallS (G : FnS) (ea : EvA) : EvE := fun env μ => (ea env μ).bind fun p => G p.1 p.2
section
variable {K : PySem.W.Frag} {H H' : Hp} {ad ad' xs : List Addr} {μ μ' : Store}
mutual
theorem Ly.noL {I I' : Hp} (k : ∀ a o, I a = some o → (∀ vs, o ≠ .lst vs) → I' a = some o) : ∀ {v : V} {d : PyData}, Ly K I v d → Zd.noL d = true → Ly K I' v d
  | _, _, .non, _ => .non
  | _, _, .bl b, _ => .bl b
  | _, _, .int i, _ => .int i
  | _, _, .str x, _ => .str x
  | _, _, .lst _ _, e => by simp [Zd.noL] at e
  | _, _, .tup h q, e => .tup (by
      rcases h with (h | ⟨o, h⟩) | h
      · exact .inl (.inl (k _ _ h (by simp)))
      · exact .inl (.inr ⟨o, k _ _ h (by simp)⟩)
      · exact .inr h) (LyAll.noL k q (by simpa [Zd.noL] using e))
theorem LyAll.noL {I I' : Hp} (k : ∀ a o, I a = some o → (∀ vs, o ≠ .lst vs) → I' a = some o) : ∀ {vs : List V} {ds : List PyData}, LyAll K I vs ds → Zd.noLs ds = true → LyAll K I' vs ds
  | _, _, .nil, _ => .nil
  | _, _, .cons h q, e => by
    simp only [Zd.noLs, Bool.and_eq_true] at e
    exact .cons (Ly.noL k h e.1) (LyAll.noL k q e.2)
end
/-- where the lists that may change lie, of these -/
def refsOf (ad : List Addr) (ds : List D) : List Addr := ds.filterMap fun d => match d with
  | .ref l => ad[l]?
  | _ => none
theorem refsOf_lst (w : WOk K H ad xs μ) {a : Addr} : ∀ {ds : List D} {ps : List PyData}, derefs μ ds = some ps → a ∈ refsOf ad ds → (∃ ws, H a = some (.lst ws)) ∧ ds.all isVal = false
  | [], _, _, hv => by simp [refsOf] at hv
  | d :: ds, ps, e, hv => by
    unfold derefs at e
    cases hd : deref μ d with
    | none => rw [hd] at e; cases e
    | some p0 =>
      rw [hd] at e
      simp only [Option.map_eq_some_iff] at e
      obtain ⟨qs, e1, _⟩ := e
      have tl : a ∈ refsOf ad ds → (∃ ws, H a = some (.lst ws)) ∧ (d :: ds).all isVal = false := fun z => by
        obtain ⟨y1, y2⟩ := refsOf_lst w e1 z
        exact ⟨y1, by simp [y2]⟩
      cases d with
      | pd d => exact tl (by simpa [refsOf] using hv)
      | scr ns => exact tl (by simpa [refsOf] using hv)
      | ref l =>
        cases g : ad[l]? with
        | none => exact tl (by simpa [refsOf, g] using hv)
        | some b =>
          have hv2 : a = b ∨ a ∈ refsOf ad ds := by simpa [refsOf, g] using hv
          rcases hv2 with rfl | z
          · refine ⟨?_, by simp [isVal]⟩
            cases hcell : μ[l]? with
            | none => simp [deref, hcell] at hd
            | some c =>
              cases c with
              | lst es =>
                obtain ⟨ws, k1, _⟩ := w.cell l a _ g hcell
                exact ⟨ws, k1⟩
              | _ => simp [deref, hcell] at hd
          · exact tl z
theorem args_ly {ys : List Addr} (w : WOk K H ad xs μ) (im : Same (Im H ad xs) (Im H [] ys)) : ∀ {ds : List D} {ps : List PyData} {vs : List V}, derefs μ ds = some ps → RepAll K H ad xs ds vs → (∀ a, a ∈ refsOf ad ds → a ∉ ys) → LyAll K (Im H [] ys) vs ps
  | [], _, _, e, .nil, _ => by cases e; exact .nil
  | d :: ds, ps, _, e, .cons h t, hy => by
    unfold derefs at e
    cases hd : deref μ d with
    | none => rw [hd] at e; cases e
    | some p0 =>
      rw [hd] at e
      simp only [Option.map_eq_some_iff] at e
      obtain ⟨qs, e1, rfl⟩ := e
      refine .cons ?_ (args_ly w im e1 t fun a ha => hy a (by
        unfold refsOf at ha ⊢
        rw [List.filterMap_cons]
        split <;> simp_all))
      cases d with
      | pd d => cases hd; exact Ly.grow im h
      | scr ns => simp [deref] at hd
      | ref l =>
        obtain ⟨a, g, rfl⟩ := h
        have na : a ∉ ys := hy a (by simp [refsOf, g])
        cases hcell : μ[l]? with
        | none => simp [deref, hcell] at hd
        | some c =>
          cases c with
          | lst es =>
            simp [deref, hcell] at hd
            subst hd
            obtain ⟨ws, k1, k2⟩ := w.cell l a _ g hcell
            exact .lst (Im_of (by simp) na k1) (LyAll.grow im k2)
          | _ => simp [deref, hcell] at hd
theorem callP_core {σ : L2.St} {F : FnP} {er : EvA} {n : Nat} {Q : VK} {W : Wish} (hn : ∀ ps r, F ps = .ok r → ps.length = n) (h : tD K W (eCallP F er) σ H Q) : tCallK (spP K n F) (tDA K W er) σ H Q := by
  obtain ⟨ad, xs, env, μ, sr, w, p⟩ := h
  refine ⟨ad, xs, env, μ, sr, w, p.bind.mono fun ds H1 ad1 μ1 e1 w1 q vs r => ?_⟩
  dsimp only at q
  cases hp : derefs μ1 ds with
  | none => rw [hp] at q; exact q.elim
  | some ps =>
    rw [hp] at q
    dsimp only at q
    cases hF : F ps with
    | exc c fs μ2 => rw [hF] at q; exact q.elim
    | stuck => rw [hF] at q; exact q.elim
    | ok d =>
      rw [hF] at q
      dsimp only at q
      by_cases hc : (ds.all isVal || noL d) = true
      · rw [if_pos hc] at q
        have nd := List.nodup_append.mp w1.nd
        obtain ⟨ys, hys⟩ : ∃ ys, ys = ad1.filter (fun a => decide (a ∉ refsOf ad1 ds)) ++ xs := ⟨_, rfl⟩
        have yin : ∀ a, a ∈ ys ↔ (a ∈ ad1 ∧ a ∉ refsOf ad1 ds) ∨ a ∈ xs := fun a => by rw [hys]; simp
        have im1 : Same (Im H1 ad1 xs) (Im H1 [] ys) := fun a o z => by
          obtain ⟨z1, z2, z3⟩ := Im_some z
          exact Im_of (by simp) (fun y => ((yin a).mp y).elim (fun u => z1 u.1) z2) z3
        have rin : ∀ a, a ∈ refsOf ad1 ds → a ∈ ad1 := fun a z => by
          unfold refsOf at z
          obtain ⟨d0, _, g⟩ := List.mem_filterMap.mp z
          split at g
          · exact List.mem_of_getElem? g
          · cases g
        have rny : ∀ a, a ∈ refsOf ad1 ds → a ∉ ys := fun a z y => by
          rcases (yin a).mp y with u | u
          · exact u.2 z
          · exact nd.2.2 a (rin a z) a u rfl
        have ly := args_ly w1 im1 hp r rny
        refine ⟨ys, ps, d, by rw [LyAll.length ly]; exact hn _ _ hF, ?_, fun a ha => w1.there a (((yin a).mp ha).elim (fun u => .inl u.1) .inr), ly, hF, fun H' v sm kx lv => ?_⟩
        · rw [hys, List.nodup_append]
          exact ⟨nd.1.sublist List.filter_sublist, nd.2.1, fun a ha b hb => nd.2.2 a (List.mem_filter.mp ha).1 b hb⟩
        · have sm2 : Same (Im H1 ad1 xs) (Im H' ad1 xs) := fun a o z => by
            obtain ⟨z1, z2, z3⟩ := Im_some z
            exact Im_of z1 z2 (Im_some (sm a o (im1 a o z))).2.2
          have at_ : ∀ a, a ∈ ad1 → H' a = H1 a := fun a ha => by
            by_cases hr : a ∈ refsOf ad1 ds
            · obtain ⟨o, ho⟩ := w1.there a (.inl ha)
              have := sm a o (Im_of (by simp) (rny a hr) ho)
              rw [ho, (Im_some this).2.2]
            · exact kx a ((yin a).mpr (.inl ⟨ha, hr⟩))
          have ex : Ext H1 ad1 xs H' ad1 := ⟨sm2, ⟨[], by simp⟩, fun a ha => kx a ((yin a).mpr (.inr ha))⟩
          have wk : WOk K H' ad1 xs μ1 := ⟨w1.len, w1.nd, fun a ha => by
              rcases ha with ha | ha
              · rw [at_ a ha]; exact w1.there a (.inl ha)
              · rw [kx a ((yin a).mpr (.inr ha))]; exact w1.there a (.inr ha), fun l a c g1 g2 => (w1.cell l a c g1 g2).grow sm2 ⟨[], by simp⟩ (at_ a (List.mem_of_getElem? g1))⟩
          refine q.ok_at ex wk v ?_
          show Ly K (Im H' ad1 xs) v d
          by_cases hv : ds.all isVal = true
          · have : Same (Im H' [] ys) (Im H' ad1 xs) := fun a o z => by
              obtain ⟨_, z2, z3⟩ := Im_some z
              refine Im_of (fun y => ?_) (fun y => z2 ((yin a).mpr (.inr y))) z3
              by_cases hr : a ∈ refsOf ad1 ds
              · rw [(refsOf_lst w1 hp hr).2] at hv; cases hv
              · exact z2 ((yin a).mpr (.inl ⟨y, hr⟩))
            exact Ly.grow this lv
          · refine Ly.noL (fun a o z no => ?_) lv (by simpa [hv] using hc)
            obtain ⟨_, z2, z3⟩ := Im_some z
            refine Im_of (fun y => ?_) (fun y => z2 ((yin a).mpr (.inr y))) z3
            by_cases hr : a ∈ refsOf ad1 ds
            · obtain ⟨⟨ws, k⟩, _⟩ := refsOf_lst w1 hp hr
              rw [at_ a y, k] at z3
              cases z3
              exact no ws rfl
            · exact z2 ((yin a).mpr (.inl ⟨y, hr⟩))
      · rw [if_neg hc] at q
        exact q.elim
theorem callS_core {σ : L2.St} {G : FnS} {er : EvA} {n : Nat} {Q : VK} (hn : ∀ ds μ, ds.length ≠ n → G ds μ = .stuck) (h : tD K W0 (eCallS G er) σ H Q) : tCallK (spS K n G) (tDA K W0 er) σ H Q := by
  obtain ⟨ad, xs, env, μ, sr, w, p⟩ := h
  refine ⟨ad, xs, env, μ, sr, w, p.bind.mono fun ds H1 ad1 μ1 e1 w1 q vs r => ?_⟩
  refine ⟨ad1, xs, μ1, ds, ?_, w1, r, q⟩
  rw [← RepAll.length r]
  apply Classical.byContradiction
  intro hne
  dsimp only at q
  rw [hn _ _ hne] at q
  exact q
theorem fnP_len {n m : Nat} {ev : EvS} (ps : List PyData) (r : PyData) (h : fnP n m ev ps = .ok r) : ps.length = n := by
  unfold fnP at h
  split at h
  · assumption
  · cases h
theorem fnL_len {n m : Nat} {ev : EvS} (ds : List D) (μ : Store) (h : ds.length ≠ n) : fnL n m ev ds μ = .stuck := by
  unfold fnL
  rw [if_neg h]
theorem fnS_len {n m : Nat} {ev : EvS} (ds : List D) (μ : Store) (h : ds.length ≠ n) : fnS n m ev ds μ = .stuck := by
  unfold fnS
  rw [fnL_len ds μ h]
  rfl
end

/-- a def by value, under its name -/
structure DefP (P : Program) (w : World) (K : PySem.W.Frag) (mg : Str → Option Value) (base : Heap) (k : Nat) (x : Str) (F : FnP) : Prop where
  ex : ∃ n, CalK P w K mg base k x (spP K n F) ∧ ∀ ps r, F ps = .ok r → ps.length = n
structure DefS (P : Program) (w : World) (K : PySem.W.Frag) (mg : Str → Option Value) (base : Heap) (k : Nat) (x : Str) (G : FnS) : Prop where
  ex : ∃ n, CalK P w K mg base k x (spS K n G) ∧ ∀ ds μ, ds.length ≠ n → G ds μ = .stuck
section
variable {P : Program} {w : World} {K : PySem.W.Frag} {mg : Str → Option Value} {base : Heap} {x : Str} {st : Stmt} {f : Addr} {fd : FuncData} {N ps : List Str} {k : Nat} {ev : EvS}
theorem defP (F : Fun K x x st f fd) (hm : mg x = some (.ref f)) (b : Binds K fd ps []) (S : FnScope N ps (defScope st))
    (hb : ∀ (cdv : Value) (A : Around) (outer : List PySem.Env) (s : Shared) (H : Hp), Rm k (A.deeper (envOfC x (defScope st) s.heap.objs.size f cdv)) → SSs (cxOf CX0 P w K mg base N x (defScope st) f cdv A outer s H E0).nox W0 (defBody st) ev) :
    DefP P w K mg base (k + 1) x (fnP ps.length N.length ev) := ⟨_, ⟨f, fd, ps, fk_P F S hb, hm, F.kp, b⟩, fnP_len⟩
theorem defS (F : Fun K x x st f fd) (hm : mg x = some (.ref f)) (b : Binds K fd ps []) (S : FnScope N ps (defScope st))
    (hb : ∀ (cdv : Value) (A : Around) (outer : List PySem.Env) (s : Shared) (H : Hp), Rm k (A.deeper (envOfC x (defScope st) s.heap.objs.size f cdv)) → SSs (cxOf CX0 P w K mg base N x (defScope st) f cdv A outer s H E0).nox W0 (defBody st) ev) :
    DefS P w K mg base (k + 1) x (fnS ps.length N.length ev) := ⟨_, ⟨f, fd, ps, fk_S F S hb, hm, F.kp, b⟩, fnS_len⟩
theorem defL (F : Fun K x x st f fd) (hm : mg x = some (.ref f)) (b : Binds K fd ps []) (S : FnScope N ps (defScope st))
    (hb : ∀ (cdv : Value) (A : Around) (outer : List PySem.Env) (s : Shared) (H : Hp), Rm k (A.deeper (envOfC x (defScope st) s.heap.objs.size f cdv)) → SSs (cxOf CX0 P w K mg base N x (defScope st) f cdv A outer s H E0).nox W0 (defBody st) ev) :
    DefS P w K mg base (k + 1) x (fnL ps.length N.length ev) := ⟨_, ⟨f, fd, ps, fk_L F S hb, hm, F.kp, b⟩, fnL_len⟩
theorem CalK.mono {sp : Sq} {j : Nat} (c : CalK P w K mg base j x sp) (h : j ≤ k) : CalK P w K mg base k x sp := by
  obtain ⟨f, fd, ps, F, r⟩ := c.ex
  exact ⟨f, fd, ps, F.mono h, r⟩
end
section
variable {X : Cx} {W : Wish} {j k : Nat} {x : Str} {F : FnP} {G : FnS} {p pos : Pos} {e : Expr} {es : List Expr} {er : EvA}
theorem se_callP (c : DefP X.prog X.w X.K X.mg X.base j x F) (hr : Rm k X.A) (ha : SA X W (e :: es) er) (hj : j ≤ k := by decide) (hg : Gl X x := by rfl) (hd : (x == ("__debug__" : Str)) = false := by decide)
    (he : starEach (e :: es) X.env = (false, eval e X.env) :: starEach es X.env := by rfl) (hpl : (backTo pos (starEach es X.env)).any (·.1) = false := by rfl) : SE X W (.Call (.Name x p) (e :: es) [] pos) (eCallP F er) := by
  obtain ⟨n, c, hn⟩ := c.ex
  exact pe_imp (pe_callK (c.mono hj) hr hg ha hd he hpl) fun _ _ _ h => callP_core hn h
theorem se_callS (c : DefS X.prog X.w X.K X.mg X.base j x G) (hr : Rm k X.A) (ha : SA X W0 (e :: es) er) (hj : j ≤ k := by decide) (hg : Gl X x := by rfl) (hd : (x == ("__debug__" : Str)) = false := by decide)
    (he : starEach (e :: es) X.env = (false, eval e X.env) :: starEach es X.env := by rfl) (hpl : (backTo pos (starEach es X.env)).any (·.1) = false := by rfl) : SE X W0 (.Call (.Name x p) (e :: es) [] pos) (eCallS G er) := by
  obtain ⟨n, c, hn⟩ := c.ex
  exact pe_imp (pe_callK (c.mono hj) hr hg ha hd he hpl) fun _ _ _ h => callS_core hn h
end

/-! ### the text of a value -/
def fRepr : FN
  | [d] => if d.showable = true ∧ d.hasDict = false ∧ d.shown.length ≤ sizeLine ∧ d.depth ≤ 60 then some (.str d.shown) else none
  | _ => none
def rShown (K : PySem.W.Frag) : RN := fun vs H Q => ∃ v d, vs = [v] ∧ Dp K H v d ∧ d.showable = true ∧ d.hasDict = false ∧ d.shown.length ≤ sizeLine ∧ d.depth ≤ 60 ∧ Q (.str d.shown) H
theorem rn_repr {K : PySem.W.Frag} : RnOk K (rShown K) fRepr := fun H ad xs μ vs ps c Q w m e q => by
  unfold fRepr at e
  split at e
  · split at e
    · rename_i h
      cases e
      obtain ⟨v, rfl, m1⟩ := m.one
      exact ⟨v, _, rfl, m1.dp, h.1, h.2.1, h.2.2.1, h.2.2.2, q.same w (.str _)⟩
    · cases e
  · cases e
theorem call_repr {X : Cx} {k : Nat} (hr : Rm k X.A) : CallR X (.builtin "repr") (rShown X.K) := by
  intro pins s σ H xs us Q I r h
  obtain ⟨v, d, rfl, dp, h1, h2, h3, h4, q⟩ := h
  obtain ⟨u, rfl, ru⟩ := vals1 r
  have hu := hr.rm.units
  have fin : ∀ (t : Tok), L2.RelV (V.str d.shown) (Value.str d.shown t) := fun t => ⟨t, rfl⟩
  have big : ∀ a, u = .ref a → wpAny (model X.prog X.w) X.A (call (.builtin "repr") [u]) (EP X pins σ Q) X.xe s := by
    rintro a rfl
    obtain ⟨as, rd⟩ := Dp.reads I d v _ dp ru
    exact repr_of_reads' rd h1 (PyData.noDict_hsm h2) hr.gd (by omega) (fun _ _ e => e) (fun h' t tk hk => ⟨_, H, I.kept hk, fin t, q⟩) h3
  cases d with
  | none =>
    cases dp
    cases (show u = Value.none from ru)
    exact PySem.P.repr_of_none ⟨_, H, I.tok _, fin _, q⟩
  | bool b =>
    cases dp
    cases (show u = Value.bool b from ru)
    refine PySem.P.repr_of_bool ⟨_, H, I.tok _, ?_, q⟩
    cases b <;> exact fin _
  | int i =>
    cases dp
    obtain ⟨t, rfl⟩ := ru
    exact PySem.P.repr_of_int (by simpa [PyData.showable] using h1) ⟨_, H, I.tok _, fin _, q⟩
  | str z =>
    cases dp
    obtain ⟨t, rfl⟩ := ru
    exact PySem.P.repr_of_str ⟨_, H, I.tok _, fin _, q⟩ (by simpa [PyData.shown] using h3)
  | list ds =>
    cases dp with
    | lst _ _ => exact big _ ru
  | tuple ds =>
    cases dp with
    | tup _ _ => exact big _ ru
  | dict kvs => simp [PyData.hasDict] at h2
end Zd

set_option Elab.async false
set_option linter.all false
set_option maxRecDepth 100000
set_option maxHeartbeats 4000000
/-! enumerate and zip over lists and tuples, range with a step, dicts: read by value. -/
namespace Zd
open PySem PySem.Spec PyProof.Rows L2

/-! ### a list or a tuple that is walked -/
def SqB (K : PySem.W.Frag) (b : Bool) (H : Hp) (a : Addr) (xs : List V) : Prop := match b with
  | true => SqL K H a xs
  | false => SqT K H a xs
def IsB (b : Bool) (h : Heap) (a : Addr) (its : Array Value) : Prop := match b with
  | true => h.IsList a its
  | false => h.IsTuple a its
def ItB (b : Bool) (h : Heap) (it a : Addr) (i : Nat) : Prop := match b with
  | true => h.IsListIter it a i
  | false => h.IsTupleIter it a i
def itO (b : Bool) (a : Addr) : Obj := match b with
  | true => { cls := .type "list_iterator", data := .fields #[.ref a, .int 0 0] }
  | false => { cls := .type "tuple_iterator", data := .fields #[.ref a, .int 0 0] }
theorem beginsB (b : Bool) (a : Addr) (its : Array Value) : Begins (.ref a) (itO b a) (fun h => IsB b h a its) := by
  cases b
  · exact begins_tuple a its
  · exact begins_list a its
theorem drawsB {prog : Program} {w : World} {A : Around} (hh : A.handled = none) (b : Bool) (it t : Addr) (hne : t ≠ it) (its : Array Value) : Draws prog w A it [it, t] its.size (fun i v => its[i]? = some v) (fun i h => ItB b h it t i ∧ IsB b h t its) := by
  cases b
  · exact Draws.tuple hh it t hne its
  · exact Draws.list hh it t hne its
theorem ItB.at {b : Bool} {h h' : Heap} {it a : Addr} {i : Nat} (p : ItB b h it a i) (k : ∀ o, h.get? it = some o → h'.get? it = some o) : ItB b h' it a i := by
  cases b
  · exact Heap.IsTupleIter.at p k
  · exact Heap.IsListIter.at p k
theorem IsB.at {b : Bool} {h h' : Heap} {a : Addr} {its : Array Value} (p : IsB b h a its) (k : ∀ o, h.get? a = some o → h'.get? a = some o) : IsB b h' a its := by
  cases b
  · exact Heap.IsTuple.at p k
  · exact Heap.IsList.at p k
theorem ItB.obj {b : Bool} {h : Heap} {it a : Addr} {i : Nat} (p : ItB b h it a i) : ∃ o, h.get? it = some o ∧ ∀ v, o.data ≠ .cell v := by
  cases b
  · obtain ⟨o, e, _, d⟩ := p
    exact ⟨o, e, fun v q => by rw [d] at q; cases q⟩
  · obtain ⟨o, e, _, d⟩ := p
    exact ⟨o, e, fun v q => by rw [d] at q; cases q⟩
theorem ItB.new {b : Bool} {h : Heap} {it a : Addr} (e : h.get? it = some (itO b a)) : ItB b h it a 0 := by
  cases b
  · exact ⟨_, e, rfl, rfl⟩
  · exact ⟨_, e, rfl, rfl⟩
section
variable {X : Cx} {pins : List (Addr × Obj)} {σ : L2.St} {H : Hp} {s : Shared} {a : Addr} {xs ys : List V} {b : Bool}
theorem inv_sqB (I : Inv X pins σ H s) (h : SqB X.K b H a xs) : ∃ its : List Value, Vals xs its ∧ IsB b s.heap a its.toArray := by
  cases b
  · obtain ⟨its, rv, p, _⟩ := I.tuple h
    exact ⟨its, rv, p⟩
  · obtain ⟨its, rv, p, _⟩ := I.list h
    exact ⟨its, rv, p.isList⟩
theorem sqB_inj (I : Inv X pins σ H s) (h : SqB X.K b H a xs) (h2 : SqB X.K b H a ys) : xs = ys := by
  cases b
  · exact I.tuple_inj h h2
  · exact I.list_inj h h2
theorem IsB.lt {h : Heap} {its : Array Value} (p : IsB b h a its) : a < h.objs.size := by
  cases b
  · obtain ⟨o, e, _⟩ := p
    exact Heap.lt_size e
  · obtain ⟨o, e, _⟩ := p
    exact Heap.lt_size e
end
/-! ### enumerate -/

set_option maxHeartbeats 1000000 in
theorem enum_meets1 {v : Value} {ob : Obj} {St : Heap → Prop} (B : Begins v ob St) : Meets (Builtin.«enumerate.__new__» ⟨[.type "enumerate", v], []⟩) (fun _ R s => St s.heap ∧
    R (.ok (.ret (.ref (s.heap.push ob).objs.size))) { s with heap := (s.heap.push ob).push { cls := .type "enumerate", data := .fields #[.none, .bool false, .ref s.heap.objs.size, rawInt 0, .none, .none] } }) := by
  apply Meets.of_wp
  rintro P w A R ⟨hp, gs, dr, tk, os⟩ ⟨st, fin⟩
  have sub1 := sub_enumerate
  have it1 : ∀ {A' : Around} {E : Value → Shared → Prop} {Q : Value → Shared → Prop}, Q (.ref hp.objs.size) ⟨hp.push ob, gs, dr, tk, os⟩ → wpAny (model P w) A' (pyIter v) Q E ⟨hp, gs, dr, tk, os⟩ := fun q => B.iter P w _ _ _ _ st q
  wp_walk using it1
  refine wpAny_stack_any fun stk => wpAny_pure ?_
  split
  · rename_i c _ _ _ _ _
    cases (c == Value.type "enumerate") <;> (wp_walk using it1; exact ⟨_, rfl, fin⟩)
  · wp_walk using it1
    exact ⟨_, rfl, fin⟩
theorem enum_one {P : Program} {w : World} {A : Around} {E : Value → Shared → Prop} {s : Shared} {v : Value} {ob : Obj} {St : Heap → Prop} {Q : Value → Shared → Prop} (B : Begins v ob St) (h1 : St s.heap)
    (h : ∀ h', IsEnum h' (s.heap.objs.size + 1) s.heap.objs.size 0 .none → h'.get? s.heap.objs.size = some ob → h'.objs.size = s.heap.objs.size + 2 → (∀ c o, s.heap.get? c = some o → h'.get? c = some o) → Q (.ref (s.heap.objs.size + 1)) { s with heap := h' }) :
    wpAny (model P w) A (call (.type "enumerate") [v]) Q E s := by
  refine callType_new F.called_enumerate (by decide) (F.typeCall_enumerate_1 _) (F.newCall_enumerate_1 _) (fun obj => F.args_object_init_2 obj _) F.entry_enumerate_new (enum_meets1 B) ⟨h1, ?_⟩
  have sz : (s.heap.push ob).objs.size = s.heap.objs.size + 1 := Heap.size_push ..
  have gE := Heap.get?_push_size (s.heap.push ob) (o := { cls := .type "enumerate", data := .fields #[.none, .bool false, .ref s.heap.objs.size, rawInt 0, .none, .none] }) rfl
  show _ ∧ _
  rw [sz] at gE ⊢
  exact ⟨⟨_, gE, rfl⟩, h _ gE (Heap.get?_push_of_some _ (Heap.get?_push_size _ B.free)) (by rw [Heap.size_push, sz]) fun c o e => Heap.get?_push_of_some _ (Heap.get?_push_of_some _ e)⟩
def ItE (K : PySem.W.Frag) (b : Bool) (a : Addr) : It :=
  ⟨fun i H => ∃ (xs : List V) (x : V), SqB K b H a xs ∧ xs[i]? = some x,
   fun i H v H' => ∃ T x, v = .ref T ∧ H T = none ∧ H' = upd H T (.tup [.int (i : Nat), x]) ∧ ∀ xs, SqB K b H a xs → xs[i]? = some x,
   fun i H => ∃ xs : List V, SqB K b H a xs ∧ xs.length = i⟩
theorem turn_E {P : Program} {w : World} {K : PySem.W.Frag} {elts : List Expr} {kk : Nat} {tpos : Pos} (b : Bool) (a e it : Addr) :
    Turn P w K (.Tuple elts kk tpos) (ItE K b a) [e, it] e (fun i h => (∃ old, IsEnum h e it ((i : Nat) : Int) old) ∧ ItB b h it a i ∧ e ≠ it ∧ a ≠ it ∧ e ≠ a) where
  mem := by simp
  obj := by
    rintro i h ⟨⟨old, he⟩, hi, _⟩ c hc
    rcases List.mem_cons.mp hc with rfl | hc
    · exact ⟨_, he, fun v q => nomatch q⟩
    · rw [List.mem_singleton.mp hc]
      exact hi.obj
  keep := by
    rintro i h h' ⟨⟨old, he⟩, hi, r⟩ k
    exact ⟨⟨old, k e (by simp) _ he⟩, hi.at fun o q => k it (by simp) o q, r⟩
  item := by
    intro X hP hw hK hc i pins s σ H E I hf st hg
    subst hP hw hK
    obtain ⟨⟨old, he⟩, hit, hne, hai, hea⟩ := st
    obtain ⟨xs, x, hq, hx⟩ := hg
    obtain ⟨its, rv, p⟩ := inv_sqB I hq
    obtain ⟨u, hu, ru⟩ := rv.get hx
    have hil : i < its.toArray.size := by
      have := (List.getElem?_eq_some_iff.mp hu).1
      simpa using this
    have lte : e < s.heap.objs.size := Heap.lt_size he
    have lti : it < s.heap.objs.size := by
      obtain ⟨o, q, _⟩ := hit.obj
      exact Heap.lt_size q
    have D := drawsB (prog := X.prog) (w := X.w) (A := X.A.in1) (I.ok.hd hc) b it a hai its.toArray
    refine wpAny_pyNext_enum_itemC D he ⟨hit, p⟩ hil hne (by simp [hne, hea]) fun y h' tk hy ho st' hT hsz hk => ?_
    have hyu : y = u := by
      have h2 : its[i]? = some y := by simpa using hy
      rw [hu] at h2
      exact (Option.some.inj h2).symm
    subst hyu
    refine ⟨_, rfl, wpAny_letOwnedTupleGo_enum (s := { s with heap := h', toks := tk + 1 }) ho fun h2 he2 sb => ?_⟩
    have hT2 : h2.get? s.heap.objs.size = some { cls := .type "tuple", data := .seq #[.int i tk, y] } := (sb.2 _ (Nat.ne_of_gt lte)).trans hT
    have ok : ObjOk X.prog X.w (upd H s.heap.objs.size (.tup [.int (i : Nat), x])) h2 s.heap.objs.size (.tup [.int (i : Nat), x]) :=
      ⟨(by decide : (2 : Nat) ≤ sizeLine), [.int i tk, y], .cons ⟨tk, rfl⟩ (.cons ru .nil), _, hT2, rfl, _, rfl⟩
    have I1 : Inv X pins σ (upd H s.heap.objs.size (.tup [.int (i : Nat), x])) { s with heap := h2, toks := tk + 1 } := by
      refine I.turnedNew (ch := [e, it]) (fun c ob hc q => ?_) hf (Nat.le_refl _) ok
      have c1 : c ≠ e := fun z => hc (by simp [z])
      have c2 : c ≠ it := fun z => hc (by simp [z])
      exact (sb.2 c c1).trans (hk c ob c1 c2 q)
    refine ⟨.ref s.heap.objs.size, _, I1, rfl, ⟨_, x, rfl, I.hok.fresh (Nat.le_refl _), rfl, fun zs hz => by rw [sqB_inj I hz hq]; exact hx⟩, ⟨⟨y, ?_⟩, st'.1.at fun o q => (sb.2 it (Ne.symm hne)).trans q, hne, hai, hea⟩, fun c hc => ?_⟩
    · have : ((i + 1 : Nat) : Int) = (i : Int) + 1 := by omega
      rw [this]
      exact he2
    · have lt : c < s.heap.objs.size := by
        rcases List.mem_cons.mp hc with rfl | hc
        · exact lte
        · rw [List.mem_singleton.mp hc]
          exact lti
      rw [upd_ne (Nat.ne_of_lt lt)]
      exact (hf c hc).1
  done := by
    intro X hP hw hK hc i pins s σ H E I hf st hg
    subst hP hw hK
    obtain ⟨⟨old, he⟩, hit, hne, hai, hea⟩ := st
    obtain ⟨xs, hq, hx⟩ := hg
    obtain ⟨its, rv, p⟩ := inv_sqB I hq
    have D := drawsB (prog := X.prog) (w := X.w) (A := X.A.in1) (I.ok.hd hc) b it a hai its.toArray
    have hl : i = its.toArray.size := by
      have := rv.length
      simp
      omega
    subst hl
    obtain ⟨f0, f1, f2, f3, f4, f5⟩ := hf it (by simp)
    exact wpAny_pyNext_enum_endD D he ⟨hit, p⟩ fun h' eb => ⟨rfl, I.turned (t' := s.toks) (fun c o hb q => eb c o hb q) f0 f1 f3 f4 f5⟩
  self := by
    rintro A i s Q E ⟨⟨_, he⟩, _⟩ h
    exact wpAny_pyIter_enum he h
def tEn (K : PySem.W.Frag) (ta : TA) : TI := fun σ H R => ta σ H fun vs H1 => ∃ b a xs, vs = [.ref a] ∧ SqB K b H1 a xs ∧ R (ItE K b a) H1
theorem pi_E {X : Cx} {e : Expr} {ta : TA} {p pos tpos : Pos} {elts : List Expr} {kk : Nat} (hg : Gl X "enumerate") (hm : X.mg "enumerate" = none) (ha : PA X [e] ta) (hs : starEach [e] X.env = [(false, eval e X.env)] := by rfl) :
    PI X (.Tuple elts kk tpos) (.Call (.Name "enumerate" p) [e] [] pos) (tEn X.K ta) := by
  refine ⟨fun pins s σ H R I h => ?_⟩
  refine Call_ (ld_blt I hg hm boot_enumerate (PyProof.Rows.callWith_type1 (thn (ha.run pos pins s σ H _ I h) fun us s1 ⟨vs, H1, I1, r1, q1⟩ => ?_) hs rfl))
  obtain ⟨b, a, xs, rfl, hq, q⟩ := q1
  obtain ⟨u, rfl, ru⟩ := vals1 r1
  cases ru
  obtain ⟨its, rv, p'⟩ := inv_sqB I1 hq
  have la := p'.lt
  refine enum_one (beginsB b a its.toArray) p' fun h' he hit hsz hk => wpAny_pyIter_enum he ?_
  have I2 : Inv X pins σ H1 { s1 with heap := h' } := I1.kept (t' := s1.toks) hk
  refine ⟨s1.heap.objs.size + 1, [s1.heap.objs.size + 1, s1.heap.objs.size], _, _, H1, rfl, I2, turn_E b a (s1.heap.objs.size + 1) s1.heap.objs.size, ⟨⟨.none, he⟩, ItB.new hit, Nat.succ_ne_self _, Nat.ne_of_lt la, Nat.ne_of_gt (Nat.lt_succ_of_lt la)⟩, fun c hc => ?_, q⟩
  have le : s1.heap.objs.size ≤ c := by
    rcases List.mem_cons.mp hc with rfl | hc
    · exact Nat.le_succ _
    · rw [List.mem_singleton.mp hc]
      exact Nat.le_refl _
  exact I1.fpOk le (I1.hok.fresh le)

/-! ### zip of two -/
def ItZ (K : PySem.W.Frag) (b c : Bool) (a d : Addr) : It :=
  ⟨fun i H => ∃ (xs ys : List V) (x y : V), SqB K b H a xs ∧ SqB K c H d ys ∧ xs[i]? = some x ∧ ys[i]? = some y,
   fun i H v H' => ∃ T x y, v = .ref T ∧ H T = none ∧ H' = upd H T (.tup [x, y]) ∧ (∀ xs, SqB K b H a xs → xs[i]? = some x) ∧ ∀ ys, SqB K c H d ys → ys[i]? = some y,
   fun i H => ∃ xs ys : List V, SqB K b H a xs ∧ SqB K c H d ys ∧ i = min xs.length ys.length⟩
theorem turn_Z {P : Program} {w : World} {K : PySem.W.Frag} {elts : List Expr} {kk : Nat} {tpos : Pos} (b c : Bool) (a d z TI TO i1 i2 : Addr) (S : ZipSep2 z TI TO i1 i2 [i1, a] [i2, d]) (a1 : a ≠ i1) (a2 : d ≠ i2) :
    Turn P w K (.Tuple elts kk tpos) (ItZ K b c a d) [z, TI, TO, i1, i2] z (fun i h => IsZip h z TI TO .none ∧ IsTupOf2 h TI (.ref i1) (.ref i2) ∧ (∃ x y, IsTupOf2 h TO x y) ∧ ItB b h i1 a i ∧ ItB c h i2 d i) where
  mem := by simp
  obj := by
    rintro i h ⟨hz, hTI, ⟨x, y, hTO⟩, h1, h2⟩ q hq
    simp only [List.mem_cons, List.not_mem_nil, or_false] at hq
    rcases hq with rfl | rfl | rfl | rfl | rfl
    · exact ⟨_, hz, fun v q => nomatch q⟩
    · exact ⟨_, hTI, fun v q => nomatch q⟩
    · exact ⟨_, hTO, fun v q => nomatch q⟩
    · exact h1.obj
    · exact h2.obj
  keep := by
    rintro i h h' ⟨hz, hTI, ⟨x, y, hTO⟩, h1, h2⟩ k
    exact ⟨k z (by simp) _ hz, k TI (by simp) _ hTI, ⟨x, y, k TO (by simp) _ hTO⟩, h1.at fun o q => k i1 (by simp) o q, h2.at fun o q => k i2 (by simp) o q⟩
  item := by
    intro X hP hw hK hc i pins s σ H E I hf st hg
    subst hP hw hK
    obtain ⟨hz, hTI, ⟨x0, y0, hTO⟩, h1, h2⟩ := st
    obtain ⟨xs, ys, x, y, hqx, hqy, hx, hy⟩ := hg
    obtain ⟨its, rv, p⟩ := inv_sqB I hqx
    obtain ⟨jts, rv2, p2⟩ := inv_sqB I hqy
    obtain ⟨u, hu, ru⟩ := rv.get hx
    obtain ⟨u2, hu2, ru2⟩ := rv2.get hy
    have l1 : i < its.toArray.size := by simpa using (List.getElem?_eq_some_iff.mp hu).1
    have l2 : i < jts.toArray.size := by simpa using (List.getElem?_eq_some_iff.mp hu2).1
    have D1 := drawsB (prog := X.prog) (w := X.w) (A := X.A.in1) (I.ok.hd hc) b i1 a a1 its.toArray
    have D2 := drawsB (prog := X.prog) (w := X.w) (A := X.A.in1) (I.ok.hd hc) c i2 d a2 jts.toArray
    have zl : z < s.heap.objs.size := Heap.lt_size hz
    refine wpAny_pyNext_zipD2_item S D1 D2 hz hTI hTO ⟨h1, p⟩ ⟨h2, p2⟩ l1 l2 fun v1 v2 h' tk g1 g2 z' TO' st1 st2 hT hsz hk => ?_
    have e1 : v1 = u := by
      have q : its[i]? = some v1 := by simpa using g1
      rw [hu] at q
      exact (Option.some.inj q).symm
    have e2 : v2 = u2 := by
      have q : jts[i]? = some v2 := by simpa using g2
      rw [hu2] at q
      exact (Option.some.inj q).symm
    subst e1 e2
    refine ⟨_, rfl, wpAny_letOwnedTupleGo_zip (s := { s with heap := h', toks := tk }) z' fun h3 z3 sb => ?_⟩
    have hT3 : h3.get? s.heap.objs.size = some { cls := .type "tuple", data := .seq #[v1, v2] } := (sb.2 _ (Nat.ne_of_gt zl)).trans hT
    have ok : ObjOk X.prog X.w (upd H s.heap.objs.size (.tup [x, y])) h3 s.heap.objs.size (.tup [x, y]) := ⟨(by decide : (2 : Nat) ≤ sizeLine), [v1, v2], .cons ru (.cons ru2 .nil), _, hT3, rfl, _, rfl⟩
    have I1 : Inv X pins σ (upd H s.heap.objs.size (.tup [x, y])) { s with heap := h3, toks := tk } := by
      refine I.turnedNew (ch := [z, TI, TO, i1, i2]) (fun q o hq g => ?_) hf (Nat.le_refl _) ok
      simp only [List.mem_cons, List.not_mem_nil, or_false, not_or] at hq
      exact (sb.2 q hq.1).trans (hk q o hq.1 hq.2.2.1 hq.2.2.2.1 hq.2.2.2.2 g)
    refine ⟨.ref s.heap.objs.size, _, I1, rfl, ⟨_, x, y, rfl, I.hok.fresh (Nat.le_refl _), rfl, fun zs hzs => by rw [sqB_inj I hzs hqx]; exact hx, fun zs hzs => by rw [sqB_inj I hzs hqy]; exact hy⟩, ⟨z3, ?_, ⟨v1, v2, ?_⟩, ?_, ?_⟩, fun q hq => ?_⟩
    · exact (sb.2 _ S.TIz).trans (hk _ _ S.TIz S.TITO S.TIi1 S.TIi2 hTI)
    · exact (sb.2 _ S.TOz).trans TO'
    · exact st1.1.at fun o g => (sb.2 _ (Ne.symm S.zi1)).trans g
    · exact st2.1.at fun o g => (sb.2 _ (Ne.symm S.zi2)).trans g
    · have lt : q < s.heap.objs.size := by
        simp only [List.mem_cons, List.not_mem_nil, or_false] at hq
        rcases hq with rfl | rfl | rfl | rfl | rfl
        · exact zl
        · exact Heap.lt_size hTI
        · exact Heap.lt_size hTO
        · obtain ⟨_, e, _⟩ := h1.obj
          exact Heap.lt_size e
        · obtain ⟨_, e, _⟩ := h2.obj
          exact Heap.lt_size e
      rw [upd_ne (Nat.ne_of_lt lt)]
      exact (hf q hq).1
  done := by
    intro X hP hw hK hc i pins s σ H E I hf st hg
    subst hP hw hK
    obtain ⟨hz, hTI, ⟨x0, y0, hTO⟩, h1, h2⟩ := st
    obtain ⟨xs, ys, hqx, hqy, he⟩ := hg
    obtain ⟨its, rv, p⟩ := inv_sqB I hqx
    obtain ⟨jts, rv2, p2⟩ := inv_sqB I hqy
    have n1 := rv.length
    have n2 := rv2.length
    have D1 := drawsB (prog := X.prog) (w := X.w) (A := X.A.in1) (I.ok.hd hc) b i1 a a1 its.toArray
    have D2 := drawsB (prog := X.prog) (w := X.w) (A := X.A.in1) (I.ok.hd hc) c i2 d a2 jts.toArray
    refine wpAny_pyNext_zipD2_end S D1 D2 hz hTI hTO ⟨h1, p⟩ ⟨h2, p2⟩ (by simp; omega) (by simp; omega) (by simp; omega) fun h' tk hk => ⟨rfl, I.turnedL (t' := tk) (ch := [z, TI, TO, i1, i2]) (fun q o hq g => ?_) hf⟩
    simp only [List.mem_cons, List.not_mem_nil, or_false, not_or] at hq
    exact hk q o hq.1 hq.2.2.1 hq.2.2.2.1 hq.2.2.2.2 g
  self := by
    rintro A i s Q E ⟨hz, _⟩ h
    exact wpAny_pyIter_zip hz h
def tZp (K : PySem.W.Frag) (ta : TA) : TI := fun σ H R => ta σ H fun vs H1 => ∃ b c a d xs ys, vs = [.ref a, .ref d] ∧ SqB K b H1 a xs ∧ SqB K c H1 d ys ∧ R (ItZ K b c a d) H1
theorem pi_Z {X : Cx} {e e2 : Expr} {ta : TA} {p pos tpos : Pos} {elts : List Expr} {kk : Nat} (hg : Gl X "zip") (hm : X.mg "zip" = none) (ha : PA X [e, e2] ta)
    (hs : starEach [e, e2] X.env = (false, eval e X.env) :: starEach [e2] X.env := by rfl) (hpl : (backTo pos (starEach [e2] X.env)).any (·.1) = false := by rfl) :
    PI X (.Tuple elts kk tpos) (.Call (.Name "zip" p) [e, e2] [] pos) (tZp X.K ta) := by
  refine ⟨fun pins s σ H R I h => ?_⟩
  refine Call_ (ld_blt I hg hm PyProof.Rows.boot_zip (PyProof.Rows.callWith_type1 (thn (ha.run pos pins s σ H _ I h) fun us s1 ⟨vs, H1, I1, r1, q1⟩ => ?_) hs hpl))
  obtain ⟨b, c, a, d, xs, ys, rfl, hqx, hqy, q⟩ := q1
  obtain ⟨u, u2, rfl, ru, ru2⟩ := vals2 r1
  cases ru
  cases ru2
  obtain ⟨its, rv, p1⟩ := inv_sqB I1 hqx
  obtain ⟨jts, rv2, p2⟩ := inv_sqB I1 hqy
  have S := zip_sep2 (N := s1.heap.objs.size) (fp1 := [a]) (fp2 := [d]) (by simpa using p1.lt) (by simpa using p2.lt)
  refine zip_begins2 (beginsB b a its.toArray) (beginsB c d jts.toArray) p1 p2 fun h' hz hTI hTO g1 g2 hsz hk => wpAny_pyIter_zip hz ?_
  have I2 : Inv X pins σ H1 { s1 with heap := h' } := I1.kept (t' := s1.toks) hk
  refine ⟨s1.heap.objs.size + 4, [s1.heap.objs.size + 4, s1.heap.objs.size + 2, s1.heap.objs.size + 3, s1.heap.objs.size, s1.heap.objs.size + 1], _, _, H1, rfl, I2, turn_Z b c a d _ _ _ _ _ S (Nat.ne_of_lt p1.lt) (Nat.ne_of_lt (Nat.lt_succ_of_lt p2.lt)), ⟨hz, hTI, ⟨_, _, hTO⟩, ItB.new g1, ItB.new g2⟩, fun k hk => ?_, q⟩
  have le : s1.heap.objs.size ≤ k := by
    simp only [List.mem_cons, List.not_mem_nil, or_false] at hk
    rcases hk with rfl | rfl | rfl | rfl | rfl <;> first | exact Nat.le_refl _ | exact Nat.le_add_right _ _
  exact I1.fpOk le (I1.hok.fresh le)

/-! ### by value -/
def srcA (μ : Store) : D → Option Src
  | .pd (.tuple ds) => some (ds.map .pd, [])
  | d => srcL μ d
def iEn (ea : EvE) : EvI := fun env μ => (ea env μ).bind fun p => match srcA p.2 p.1 with
  | some s => match pdAll s.1 with
    | some ps => .ok ((ps.mapIdx fun i d => .pd (.tuple [.int (i : Nat), d]), s.2), p.2)
    | none => .stuck
  | none => .stuck
def iZp (ea eb : EvE) : EvI := fun env μ => (ea env μ).bind fun p => (eb env p.2).bind fun q => match srcA q.2 p.1, srcA q.2 q.1 with
  | some s, some t => match pdAll s.1, pdAll t.1 with
    | some ps, some qs => .ok ((List.zipWith (fun d e => .pd (.tuple [d, e])) ps qs, s.2 ++ t.2), q.2)
    | _, _ => .stuck
  | _, _ => .stuck
def AsSeq (K : PySem.W.Frag) (I0 : Hp) (ad0 : List Addr) (b : Bool) (a : Addr) (p : Src) : Prop := ∀ (H : Hp) (ad xs : List Addr) (μ : Store), Same I0 (Im H ad xs) → (∃ nw, ad = ad0 ++ nw) → WOk K H ad xs μ → Held p.2 μ → ∃ vs, SqB K b H a vs ∧ RepAll K H ad xs p.1 vs
theorem srcA_as {K : PySem.W.Frag} {H : Hp} {ad xs : List Addr} {μ : Store} {d : D} {v : V} {p : Src} (w : WOk K H ad xs μ) (r : Rep K H ad xs d v) (e : srcA μ d = some p) : ∃ b a, v = .ref a ∧ AsSeq K (Im H ad xs) ad b a p ∧ Held p.2 μ := by
  have other : srcL μ d = some p → ∃ b a, v = .ref a ∧ AsSeq K (Im H ad xs) ad b a p ∧ Held p.2 μ := fun e => by
    obtain ⟨a, h1, h2, h3⟩ := srcL_as w r e
    exact ⟨true, a, h1, fun H' ad' xs' μ' s n w' hh => by
      obtain ⟨vs, k1, k2⟩ := h2 H' ad' xs' μ' s n w' hh
      exact ⟨vs, SqL.of k1, k2⟩, h3⟩
  cases d with
  | pd d =>
    cases d with
    | tuple ds =>
      cases e
      cases r with
      | tup h l =>
        rename_i a vs
        exact ⟨false, a, rfl, fun H' ad' xs' μ' s _ w' _ => ⟨vs, SqT.grow Im_le (SqT.grow s h), repAll_pd (LyAll.grow s l)⟩, fun q hq => by simp at hq⟩
    | _ => exact other e
  | _ => exact other e
theorem srcA_later {K : PySem.W.Frag} {I0 I1 : Hp} {ad0 ad1 : List Addr} {b : Bool} {a : Addr} {p : Src} (h : AsSeq K I0 ad0 b a p) (s : Same I0 I1) (n : ∃ nw, ad1 = ad0 ++ nw) : AsSeq K I1 ad1 b a p := fun H ad xs μ s' n' w hh =>
  h H ad xs μ (fun c o e => s' c o (s c o e)) (by
    obtain ⟨n1, rfl⟩ := n
    obtain ⟨n2, rfl⟩ := n'
    exact ⟨n1 ++ n2, by rw [List.append_assoc]⟩) w hh
theorem held_app {g g' : List (Nat × Cell)} {μ : Store} : Held (g ++ g') μ ↔ Held g μ ∧ Held g' μ :=
  ⟨fun h => ⟨fun q hq => h q (List.mem_append_left _ hq), fun q hq => h q (List.mem_append_right _ hq)⟩, fun h q hq => (List.mem_append.mp hq).elim (h.1 q) (h.2 q)⟩
theorem pdAll_map : ∀ {ds : List D} {ps : List PyData}, pdAll ds = some ps → ds = ps.map .pd
  | [], _, e => by cases e; rfl
  | .pd d :: r, ps, e => by
    simp only [pdAll_cons, Option.map_eq_some_iff] at e
    obtain ⟨qs, e1, rfl⟩ := e
    rw [pdAll_map e1]
    rfl
  | .ref _ :: _, _, e => by cases e
  | .scr _ :: _, _, e => by cases e
theorem ly_of_repAll {K : PySem.W.Frag} {H : Hp} {ad xs : List Addr} : ∀ {ps : List PyData} {vs : List V}, RepAll K H ad xs (ps.map .pd) vs → LyAll K (Im H ad xs) vs ps
  | [], _, .nil => .nil
  | _ :: _, _, .cons h t => .cons h (ly_of_repAll t)
theorem walk_E {K : PySem.W.Frag} {I0 : Hp} {ad0 : List Addr} {b : Bool} {a : Addr} {ps : List PyData} {g : List (Nat × Cell)} (h : AsSeq K I0 ad0 b a (ps.map .pd, g)) : Walk K I0 ad0 (ItE K b a) (ps.mapIdx fun i d => .pd (.tuple [.int (i : Nat), d]), g) := fun i H ad xs μ s n w hh => by
  obtain ⟨vs, k1, k2⟩ := h H ad xs μ s n w hh
  have l := ly_of_repAll k2
  have hl := LyAll.length l
  refine ⟨fun hi => ⟨vs, k1, by simp at hi; omega⟩, fun d hd => ?_⟩
  rw [List.getElem?_mapIdx, Option.map_eq_some_iff] at hd
  obtain ⟨d0, hd0, rfl⟩ := hd
  obtain ⟨v, e1, e2⟩ := LyAll.get l hd0
  refine ⟨⟨vs, v, k1, e1⟩, fun x H' y => ?_⟩
  obtain ⟨T, x0, rfl, hT, rfl, hx⟩ := y
  have ex := hx vs k1
  rw [e1] at ex
  cases ex
  obtain ⟨w2, e2', i2⟩ := w.new (o := .tup [.int (i : Nat), v]) hT
  exact ⟨e2', w2, .tup (SqT.of i2) (LyAll.grow e2'.same (.cons (.int _) (.cons e2 .nil)))⟩
theorem walk_Z {K : PySem.W.Frag} {I0 : Hp} {ad0 : List Addr} {b c : Bool} {a d : Addr} {ps qs : List PyData} {g g' : List (Nat × Cell)} (h : AsSeq K I0 ad0 b a (ps.map .pd, g)) (h' : AsSeq K I0 ad0 c d (qs.map .pd, g')) :
    Walk K I0 ad0 (ItZ K b c a d) (List.zipWith (fun d e => .pd (.tuple [d, e])) ps qs, g ++ g') := fun i H ad xs μ s n w hh => by
  obtain ⟨hh1, hh2⟩ := held_app.mp hh
  obtain ⟨vs, k1, k2⟩ := h H ad xs μ s n w hh1
  obtain ⟨us, m1, m2⟩ := h' H ad xs μ s n w hh2
  have l := ly_of_repAll k2
  have l2 := ly_of_repAll m2
  have n1 := LyAll.length l
  have n2 := LyAll.length l2
  refine ⟨fun hi => ⟨vs, us, k1, m1, by simp at hi; omega⟩, fun q hd => ?_⟩
  rw [List.getElem?_zipWith] at hd
  split at hd
  · rename_i p0 q0 hp0 hq0
    cases hd
    obtain ⟨v, e1, e2⟩ := LyAll.get l hp0
    obtain ⟨u, f1, f2⟩ := LyAll.get l2 hq0
    refine ⟨⟨vs, us, v, u, k1, m1, e1, f1⟩, fun x H' y => ?_⟩
    obtain ⟨T, x0, y0, rfl, hT, rfl, hx, hy⟩ := y
    have ex := hx vs k1
    have ey := hy us m1
    rw [e1] at ex
    rw [f1] at ey
    cases ex
    cases ey
    obtain ⟨w2, e2', i2⟩ := w.new (o := .tup [v, u]) hT
    exact ⟨e2', w2, .tup (SqT.of i2) (LyAll.grow e2'.same (.cons e2 (.cons f2 .nil)))⟩
  · cases hd
section
variable {X : Cx} {W : Wish} {a b : Expr} {ea eb : EvE} {p pos tpos : Pos} {elts : List Expr} {kk : Nat}
theorem si_en (hg : Gl X "enumerate") (hm : X.mg "enumerate" = none) (ha : SE X W a ea) (hs : starEach [a] X.env = [(false, eval a X.env)] := by rfl) : SI X W (.Tuple elts kk tpos) (.Call (.Name "enumerate" p) [a] [] pos) (iEn ea) :=
  pi_imp (pi_E hg hm (pa_cons ha pa_nil hs) hs) fun σ H R h => by
    obtain ⟨ad, xs, env, μ, sr, w, p⟩ := h
    refine ⟨ad, xs, env, μ, sr, w, p.bind.mono fun d H1 ad1 μ1 e1 w1 q v r => ?_⟩
    dsimp only at q
    cases hs : srcA μ1 d with
    | none => rw [hs] at q; exact q.elim
    | some s =>
      rw [hs] at q
      obtain ⟨items, g⟩ := s
      dsimp only at q
      cases hp : pdAll items with
      | none => rw [hp] at q; exact q.elim
      | some ps =>
        rw [hp] at q
        obtain ⟨b, a, rfl, h1, h2⟩ := srcA_as w1 r hs
        have ei := pdAll_map hp
        subst ei
        obtain ⟨vs, k1, k2⟩ := h1 H1 ad1 xs μ1 (fun _ _ h => h) ⟨[], by simp⟩ w1 h2
        exact ⟨b, a, vs, rfl, k1, q.ok w1 _ (walk_E h1)⟩
theorem si_zp (hg : Gl X "zip") (hm : X.mg "zip" = none) (ha : SE X W a ea) (hb : SE X W b eb) (hs : starEach [a, b] X.env = (false, eval a X.env) :: starEach [b] X.env := by rfl) (hs2 : starEach [b] X.env = [(false, eval b X.env)] := by rfl) (hpl : (backTo pos (starEach [b] X.env)).any (·.1) = false := by rfl) :
    SI X W (.Tuple elts kk tpos) (.Call (.Name "zip" p) [a, b] [] pos) (iZp ea eb) :=
  pi_imp (pi_Z hg hm (pa_cons ha (pa_cons hb pa_nil hs2) hs) hs hpl) fun σ H R h => by
    obtain ⟨ad, xs, env, μ, sr, w, p⟩ := h
    refine ⟨ad, xs, env, μ, sr, w, p.bind.mono fun d H1 ad1 μ1 e1 w1 q v r => ?_⟩
    refine ⟨ad1, xs, env, μ1, sr.ext e1, w1, q.bind.mono fun d2 H2 ad2 μ2 e2 w2 q2 v2 r2 => ?_⟩
    dsimp only at q2
    cases hs : srcA μ2 d with
    | none => rw [hs] at q2; exact q2.elim
    | some s =>
      cases ht : srcA μ2 d2 with
      | none => rw [hs, ht] at q2; exact q2.elim
      | some t =>
        rw [hs, ht] at q2
        obtain ⟨items, g⟩ := s
        obtain ⟨items2, g2⟩ := t
        dsimp only at q2
        cases hp : pdAll items with
        | none => rw [hp] at q2; exact q2.elim
        | some ps =>
          cases hp2 : pdAll items2 with
          | none => rw [hp, hp2] at q2; exact q2.elim
          | some qs =>
            rw [hp, hp2] at q2
            obtain ⟨b, a, rfl, h1, h2⟩ := srcA_as w2 (r.ext e2) hs
            obtain ⟨c, a', rfl, h3, h4⟩ := srcA_as w2 r2 ht
            have ei := pdAll_map hp
            have ei2 := pdAll_map hp2
            subst ei ei2
            obtain ⟨vs, k1, k2⟩ := h1 H2 ad2 xs μ2 (fun _ _ h => h) ⟨[], by simp⟩ w2 h2
            obtain ⟨us, m1, m2⟩ := h3 H2 ad2 xs μ2 (fun _ _ h => h) ⟨[], by simp⟩ w2 h4
            exact ⟨b, c, a, a', vs, us, rfl, k1, m1, q2.ok w2 _ (walk_Z h1 h3)⟩
end
end Zd

set_option Elab.async false
set_option linter.all false
set_option maxRecDepth 100000
set_option maxHeartbeats 4000000
/-! range with step -1, dicts, lists of lists: read by value. -/
namespace Zd
open PySem PySem.Spec PyProof.Rows L2

/-! ### range(i, j, -1) -/
def iRgD (ea eb : EvE) : EvI := fun env μ => (ea env μ).bind fun p => (eb env p.2).bind fun q => match asI p.1, asI q.1 with
  | some m, some n => if -(2 ^ 62) ≤ m ∧ m < 2 ^ 62 ∧ -(2 ^ 62) ≤ n ∧ n < 2 ^ 62 then .ok (((List.range (m - n).toNat).map fun (k : Nat) => .pd (.int (m - (k : Int))), []), q.2) else .stuck
  | _, _ => .stuck
theorem walk_rgD {K : PySem.W.Frag} {I0 : Hp} {ad0 : List Addr} {m : Int} {n : Nat} : Walk K I0 ad0 (Itc m (-1) n) ((List.range n).map fun (k : Nat) => .pd (.int (m - (k : Int))), []) := fun i H ad xs μ s nn w hh => by
  refine ⟨fun hi => by have h2 : n = i := (by simpa using hi); simp [Itc]; omega, fun d hd => ?_⟩
  simp only [List.getElem?_map, Option.map_eq_some_iff] at hd
  obtain ⟨k, hk, rfl⟩ := hd
  obtain ⟨hk1, hk2⟩ := List.getElem?_eq_some_iff.mp hk
  simp at hk1 hk2
  subst hk2
  refine ⟨hk1, fun x H' y => ?_⟩
  obtain ⟨rfl, rfl⟩ := y
  refine ⟨Ext.refl, w, ?_⟩
  have e : m + (i : Int) * (-1) = m - (i : Int) := by omega
  rw [e]
  exact Ly.int _
section
variable {X : Cx} {W : Wish} {a b c : Expr} {ea eb : EvE} {p pos pc pu : Pos} {tg : Expr} {j : Nat}
theorem si_rgD (hg : Gl X "range") (hm : X.mg "range" = none) (ha : SE X W a ea) (hb : SE X W b eb) (hs : starEach [a, b, .UnaryOp .USub (.Constant (.int 1) j pc) pu] X.env = (false, eval a X.env) :: starEach [b, .UnaryOp .USub (.Constant (.int 1) j pc) pu] X.env := by rfl)
    (hs2 : starEach [b, .UnaryOp .USub (.Constant (.int 1) j pc) pu] X.env = (false, eval b X.env) :: starEach [.UnaryOp .USub (.Constant (.int 1) j pc) pu] X.env := by rfl) (hpl : (backTo pos (starEach [b, .UnaryOp .USub (.Constant (.int 1) j pc) pu] X.env)).any (·.1) = false := by rfl) :
    SI X W tg (.Call (.Name "range" p) [a, b, .UnaryOp .USub (.Constant (.int 1) j pc) pu] [] pos) (iRgD ea eb) :=
  pi_imp (pi_range3 hg hm (pa_cons ha (pa_cons hb (pa_cons (pe_un un_neg pe_int) pa_nil rfl) hs2) hs) hs hpl) fun σ H R h => by
    obtain ⟨ad, xs, env, μ, sr, w, p⟩ := h
    refine ⟨ad, xs, env, μ, sr, w, p.bind.mono fun d H1 ad1 μ1 e1 w1 q v r => ?_⟩
    refine ⟨ad1, xs, env, μ1, sr.ext e1, w1, q.bind.mono fun d2 H2 ad2 μ2 e2 w2 q2 v2 r2 => ?_⟩
    dsimp only at q2
    cases hi : asI d with
    | none => rw [hi] at q2; exact q2.elim
    | some m =>
      cases hj : asI d2 with
      | none => rw [hi, hj] at q2; exact q2.elim
      | some n =>
        rw [hi, hj] at q2
        dsimp only at q2
        by_cases hz : -(2 ^ 62) ≤ m ∧ m < 2 ^ 62 ∧ -(2 ^ 62) ≤ n ∧ n < 2 ^ 62
        · rw [if_pos hz] at q2
          refine ⟨1, rfl, m, n, -1, (m - n).toNat, ?_, RgC.neg hz.1 hz.2.1 hz.2.2.1 hz.2.2.2, q2.ok w2 _ walk_rgD⟩
          rw [asI_rep hi r, asI_rep hj r2]
        · rw [if_neg hz] at q2
          exact q2.elim
end

/-! ### tables -/
section
variable {κ : Type} [DecidableEq κ] {K : PySem.W.Frag} {H : Hp}
def lk (kvs : List (κ × PyData)) (k : κ) : Option PyData := match kvs with
  | [] => none
  | p :: r => if p.1 = k then some p.2 else lk r k
def ptR (kvs : List (κ × PyData)) (k : κ) (d : PyData) : List (κ × PyData) := kvs.map fun p => if p.1 = k then (p.1, d) else p
def pt (kvs : List (κ × PyData)) (k : κ) (d : PyData) : List (κ × PyData) := if (lk kvs k).isSome = true then ptR kvs k d else kvs ++ [(k, d)]
theorem lk_ly (k : κ) : ∀ {ws : List (κ × V)} {kvs : List (κ × PyData)}, ws.map (·.1) = kvs.map (·.1) → LyAll K H (ws.map (·.2)) (kvs.map (·.2)) → (lk kvs k = none ∧ valV ws k = none) ∨ ∃ d v, lk kvs k = some d ∧ valV ws k = some v ∧ Ly K H v d
  | [], [], _, _ => .inl ⟨rfl, rfl⟩
  | [], _ :: _, e, _ => by simp at e
  | _ :: _, [], e, _ => by simp at e
  | w :: ws, p :: kvs, e, l => by
    simp only [List.map_cons, List.cons.injEq] at e l
    cases l with
    | cons l1 l2 =>
      by_cases h : p.1 = k
      · refine .inr ⟨p.2, w.2, by simp [lk, h], valV_pos (e.1.trans h), l1⟩
      · have := lk_ly k e.2 l2
        rw [show lk (p :: kvs) k = lk kvs k by simp [lk, h], valV_neg (show ¬ w.1 = k by rw [e.1]; exact h)]
        exact this
theorem pt_ly {k : κ} {v : V} {d : PyData} (lv : Ly K H v d) {ws : List (κ × V)} {kvs : List (κ × PyData)} (e : ws.map (·.1) = kvs.map (·.1)) (l : LyAll K H (ws.map (·.2)) (kvs.map (·.2))) :
    (putK ws k v).map (·.1) = (pt kvs k d).map (·.1) ∧ LyAll K H ((putK ws k v).map (·.2)) ((pt kvs k d).map (·.2)) := by
  have hs : (ws.any fun kv => decide (kv.1 = k)) = (lk kvs k).isSome := by
    rw [valV_any]
    rcases lk_ly k e l with ⟨h1, h2⟩ | ⟨d', v', h1, h2, _⟩
    · rw [h1, h2]; rfl
    · rw [h1, h2]; rfl
  unfold putK pt
  rw [hs]
  split
  · clear hs
    rename_i hh
    clear hh
    induction ws generalizing kvs with
    | nil =>
      cases kvs with
      | nil => exact ⟨rfl, .nil⟩
      | cons _ _ => simp at e
    | cons w ws ih =>
      cases kvs with
      | nil => simp at e
      | cons p kvs =>
        simp only [List.map_cons, List.cons.injEq] at e l
        cases l with
        | cons l1 l2 =>
          obtain ⟨i1, i2⟩ := ih e.2 l2
          unfold ptR at i1 i2 ⊢
          simp only [List.map_cons, List.cons.injEq]
          by_cases h : p.1 = k
          · have h' : w.1 = k := e.1.trans h
            simp only [h, h', if_true]
            exact ⟨⟨trivial, i1⟩, .cons lv i2⟩
          · have h' : ¬ w.1 = k := by rw [e.1]; exact h
            simp only [h, h', if_false]
            exact ⟨⟨e.1, i1⟩, .cons l1 i2⟩
  · rw [List.map_append, List.map_append, List.map_append, List.map_append, e]
    exact ⟨rfl, LyAll.append l (.cons lv .nil)⟩
theorem keys_len {ws : List (κ × V)} {kvs : List (κ × PyData)} (e : ws.map (·.1) = kvs.map (·.1)) : ws.length = kvs.length := by
  have := congrArg List.length e
  simpa using this
end
/-- an int or a text as a key -/
def asK : D → Option Key
  | .pd (.int i) => some (.inl i)
  | .pd (.str x) => some (.inr x)
  | _ => none
theorem asK_rep {K : PySem.W.Frag} {H : Hp} {ad xs : List Addr} {d : D} {v : V} {k : Key} (e : asK d = some k) (r : Rep K H ad xs d v) : v = kV k := by
  unfold asK at e
  split at e
  · cases e; cases r; rfl
  · cases e; cases r; rfl
  · cases e
def asKs : List D → Option (List Key)
  | [] => some []
  | d :: r => match asK d with
    | some k => (asKs r).map (k :: ·)
    | none => none
theorem asKs_rep {K : PySem.W.Frag} {H : Hp} {ad xs : List Addr} : ∀ {ds : List D} {vs : List V} {ks : List Key}, asKs ds = some ks → RepAll K H ad xs ds vs → vs = ks.map kV
  | [], _, _, e, .nil => by cases e; rfl
  | d :: r, _, ks, e, .cons h t => by
    unfold asKs at e
    cases hk : asK d with
    | none => rw [hk] at e; cases e
    | some k =>
      rw [hk] at e
      simp only [Option.map_eq_some_iff] at e
      obtain ⟨js, e1, rfl⟩ := e
      rw [asK_rep hk h, asKs_rep e1 t]
      rfl

/-! ### dicts by ints or texts -/
def eDicK : EvE := fun _ μ => .ok (.ref μ.length, μ ++ [.dic []])
def eDicT : EvE := fun _ μ => .ok (.ref μ.length, μ ++ [.dit []])
def dicAt (μ : Store) : D → Option (Nat × List (Key × PyData))
  | .ref l => match μ[l]? with
    | some (.dic kvs) => some (l, kvs)
    | _ => none
  | _ => none
def asPd : D → Option PyData
  | .pd d => some d
  | _ => none
/-- what stands at the key: found, or not -/
def dFind (μ : Store) (d k : D) : Option (Option PyData) := match dicAt μ d, asK k with
  | some p, some k => some (lk p.2 k)
  | _, _ => none
def isDic (μ : Store) (d : D) : Bool := (dicAt μ d).isSome
def dPut (μ : Store) (d k x : D) : Option Store := match dicAt μ d, asK k, asPd x with
  | some p, some k, some x => if p.2.length < sizeLine then some (μ.set p.1 (.dic (pt p.2 k x))) else none
  | _, _, _ => none
def eDGet (ed ek : EvE) : EvE := fun env μ => (ed env μ).bind fun p => (ek env p.2).bind fun q => match dFind q.2 p.1 q.1 with
  | some (some d) => .ok (.pd d, q.2)
  | _ => .stuck
def eDIn (ek ed : EvE) : EvE := fun env μ => (ek env μ).bind fun q => (ed env q.2).bind fun p => match dFind p.2 p.1 q.1 with
  | some o => .ok (.pd (.bool o.isSome), p.2)
  | _ => .stuck
def eDNotIn (ek ed : EvE) : EvE := fun env μ => (ek env μ).bind fun q => (ed env q.2).bind fun p => match dFind p.2 p.1 q.1 with
  | some o => .ok (.pd (.bool (!o.isSome)), p.2)
  | _ => .stuck
def eDGet2 (ed ek ex : EvE) : EvE := fun env μ => (ed env μ).bind fun p => if isDic p.2 p.1 = true then (ek env p.2).bind fun q => (ex env q.2).bind fun r => match dFind r.2 p.1 q.1 with
  | some (some d) => .ok (.pd d, r.2)
  | some none => .ok (r.1, r.2)
  | _ => .stuck
  else .stuck
def eDGet1 (ed ek : EvE) : EvE := fun env μ => (ed env μ).bind fun p => if isDic p.2 p.1 = true then (ek env p.2).bind fun q => match dFind q.2 p.1 q.1 with
  | some o => .ok (.pd (o.getD .none), q.2)
  | _ => .stuck
  else .stuck
def eSetd (ed ek ex : EvE) : EvE := fun env μ => (ed env μ).bind fun p => if isDic p.2 p.1 = true then (ek env p.2).bind fun q => (ex env q.2).bind fun r => match dFind r.2 p.1 q.1, dPut r.2 p.1 q.1 r.1 with
  | some (some d), some _ => .ok (.pd d, r.2)
  | some none, some μ' => .ok (r.1, μ')
  | _, _ => .stuck
  else .stuck
def sDPutE (ed ek ev : EvE) : EvS := fun env μ => (ev env μ).bind fun p => (ed env p.2).bind fun q => (ek env q.2).bind fun r => match dPut r.2 q.1 r.1 p.1 with
  | some μ' => .ok ((.nx, env), μ')
  | none => .stuck
section
variable {K : PySem.W.Frag} {H : Hp} {ad xs : List Addr} {μ μ' : Store}
theorem dicAt_rep (w : WOk K H ad xs μ) {d : D} {v : V} {p : Nat × List (Key × PyData)} (rd : Rep K H ad xs d v) (e : dicAt μ d = some p) :
    ∃ a ws, v = .ref a ∧ ad[p.1]? = some a ∧ H a = some (.dK ws) ∧ ws.map (·.1) = p.2.map (·.1) ∧ LyAll K (Im H ad xs) (ws.map (·.2)) (p.2.map (·.2)) := by
  cases d with
  | ref l =>
    obtain ⟨a, g, rfl⟩ := rd
    cases hc : μ[l]? with
    | none => simp [dicAt, hc] at e
    | some c =>
      cases c with
      | dic kvs =>
        simp [dicAt, hc] at e
        subst e
        obtain ⟨ws, k1, k2, k3⟩ := w.cell l a _ g hc
        exact ⟨a, ws, rfl, g, k1, k2, k3⟩
      | _ => simp [dicAt, hc] at e
  | _ => simp [dicAt] at e
theorem dFind_rep (w : WOk K H ad xs μ) {d k : D} {v y : V} {o : Option PyData} (rd : Rep K H ad xs d v) (rk : Rep K H ad xs k y) (e : dFind μ d k = some o) :
    ∃ a, v = .ref a ∧ ((o = none ∧ DGet H a y none) ∨ ∃ p u, o = some p ∧ DGet H a y (some u) ∧ Ly K (Im H ad xs) u p) := by
  unfold dFind at e
  cases hd : dicAt μ d with
  | none => simp [hd] at e
  | some p =>
    cases hk : asK k with
    | none => simp [hd, hk] at e
    | some k' =>
      simp [hd, hk] at e
      subst e
      obtain ⟨a, ws, rfl, g, k1, k2, k3⟩ := dicAt_rep w rd hd
      have ey := asK_rep hk rk
      subst ey
      refine ⟨a, rfl, ?_⟩
      have dg := DGet.k (k := k') k1
      rcases lk_ly k' k2 k3 with ⟨h1, h2⟩ | ⟨d', v', h1, h2, h3⟩
      · rw [h2] at dg
        exact .inl ⟨h1, dg⟩
      · rw [h2] at dg
        exact .inr ⟨d', v', h1, dg, h3⟩
theorem isDic_rep (w : WOk K H ad xs μ) {d : D} {v : V} (rd : Rep K H ad xs d v) (e : isDic μ d = true) : ∃ a, v = .ref a ∧ IsD H a := by
  unfold isDic at e
  obtain ⟨p, hp⟩ := Option.isSome_iff_exists.mp e
  obtain ⟨a, ws, rfl, g, k1, k2, k3⟩ := dicAt_rep w rd hp
  exact ⟨a, rfl, .inl ⟨ws, .inl k1⟩⟩
theorem dPut_rep (w : WOk K H ad xs μ) {d k x : D} {v y z : V} (rd : Rep K H ad xs d v) (rk : Rep K H ad xs k y) (rx : Rep K H ad xs x z) (e : dPut μ d k x = some μ') :
    ∃ a kvs k', v = .ref a ∧ H a = some (.dK kvs) ∧ y = kV k' ∧ kvs.length < sizeLine ∧ WOk K (upd H a (.dK (putK kvs k' z))) ad xs μ' ∧ Ext H ad xs (upd H a (.dK (putK kvs k' z))) ad := by
  unfold dPut at e
  cases hd : dicAt μ d with
  | none => simp [hd] at e
  | some p =>
    cases hk : asK k with
    | none => simp [hd, hk] at e
    | some k' =>
      cases x with
      | pd x =>
        simp only [hd, hk, asPd] at e
        by_cases hl : p.2.length < sizeLine
        · simp only [hl, if_true, Option.some.injEq] at e
          subst e
          obtain ⟨a, ws, rfl, g, k1, k2, k3⟩ := dicAt_rep w rd hd
          have em : Im (upd H a (.dK (putK ws k' z))) ad xs = Im H ad xs := by
            funext b
            unfold Im upd
            by_cases eb : b = a
            · subst eb; simp [List.mem_of_getElem? g]
            · simp [eb]
          obtain ⟨p1, p2⟩ := pt_ly (k := k') rx k2 k3
          obtain ⟨w2, e2⟩ := w.write (o := .dK (putK ws k' z)) (c := .dic (pt p.2 k' x)) g ⟨_, upd_same, p1, by rw [em]; exact p2⟩
          exact ⟨a, ws, k', rfl, k1, asK_rep hk rk, by rw [keys_len k2]; exact hl, w2, e2⟩
        · simp [hl] at e
      | _ => simp [hd, hk, asPd] at e
end
theorem dget_fun {H : Hp} {a : Addr} {kvs : List (Key × V)} {k : Key} {o : Option V} (g : H a = some (.dK kvs)) (h : DGet H a (kV k) o) : valV kvs k = o := by
  rcases h with ⟨kvs', k', h1, h2, h3⟩ | ⟨kvs', k', b, h1, h2, _, _⟩
  · have := kV_inj h2
    subst this
    rcases h1 with h1 | ⟨ob, h1⟩
    · rw [g] at h1
      cases h1
      exact h3.symm
    · rw [g] at h1
      cases h1
  · cases k <;> cases h2
section
variable {X : Cx} {W : Wish} {j : Nat} {o i e f : Expr} {ed ek ex ev : EvE} {pos p2 apos cpos : Pos}
theorem se_dicK : SE X W (.Dict [] [] pos) eDicK := pe_imp pe_dnewK fun σ H Q h => by
  obtain ⟨ad, xs, env, μ, sr, w, p⟩ := h
  intro q hq
  obtain ⟨w2, e2⟩ := w.alloc (o := .dK []) (c := .dic []) hq ⟨[], upd_same, rfl, .nil⟩
  exact Post.ok_at p e2 w2 _ ⟨q, by rw [← w.len]; simp, rfl⟩
theorem se_dicT : SE X W (.Dict [] [] pos) eDicT := pe_imp pe_dnewT fun σ H Q h => by
  obtain ⟨ad, xs, env, μ, sr, w, p⟩ := h
  intro q hq
  obtain ⟨w2, e2⟩ := w.alloc (o := .dT []) (c := .dit []) hq ⟨[], upd_same, rfl, .nil⟩
  exact Post.ok_at p e2 w2 _ ⟨q, by rw [← w.len]; simp, rfl⟩
theorem hu1 {k : Nat} (hr : Rm k X.A) : X.A.units + 1 < cLine := by have := hr.rm.units; omega
theorem se_dget (hr : Rm j X.A) (ho : SE X W o ed) (hi : SE X W i ek) (hs : NoSl i := by exact fun _ _ => rfl) : SE X W (.Subscript o i pos) (eDGet ed ek) := pe_imp (pe_dget (hu1 hr) ho hi hs) fun σ H Q h => by
  obtain ⟨ad, xs, env, μ, sr, w, p⟩ := h
  refine ⟨ad, xs, env, μ, sr, w, p.bind.mono fun d H1 ad1 μ1 e1 w1 q v r => ⟨ad1, xs, env, μ1, sr.ext e1, w1, q.bind.mono fun k H2 ad2 μ2 e2 w2 q2 y rk => ?_⟩⟩
  dsimp only at q2
  cases hf : dFind μ2 d k with
  | none => rw [hf] at q2; exact q2.elim
  | some o =>
    rw [hf] at q2
    obtain ⟨a, rfl, ⟨h1, _⟩ | ⟨p0, u, h1, h2, h3⟩⟩ := dFind_rep w2 (r.ext e2) rk hf
    · subst h1; exact q2.elim
    · subst h1
      exact ⟨a, u, rfl, h2, q2.ok w2 u h3⟩
theorem din_core {σ : L2.St} {H : Hp} {Q : VK} (h : tD X.K W (eDIn ek ed) σ H Q) : tDIn (tD X.K W ek) (tD X.K W ed) σ H Q := by
  obtain ⟨ad, xs, env, μ, sr, w, p⟩ := h
  refine ⟨ad, xs, env, μ, sr, w, p.bind.mono fun k H1 ad1 μ1 e1 w1 q y rk => ⟨ad1, xs, env, μ1, sr.ext e1, w1, q.bind.mono fun d H2 ad2 μ2 e2 w2 q2 v r => ?_⟩⟩
  dsimp only at q2
  cases hf : dFind μ2 d k with
  | none => rw [hf] at q2; exact q2.elim
  | some o =>
    rw [hf] at q2
    obtain ⟨a, rfl, ⟨h1, h2⟩ | ⟨p0, u, h1, h2, h3⟩⟩ := dFind_rep w2 r (rk.ext e2) hf
    · subst h1
      exact ⟨a, none, rfl, h2, q2.ok w2 _ (.bl _)⟩
    · subst h1
      exact ⟨a, some u, rfl, h2, q2.ok w2 _ (.bl _)⟩
theorem dnotin_core {σ : L2.St} {H : Hp} {Q : VK} (h : tD X.K W (eDNotIn ek ed) σ H Q) : tDNotIn (tD X.K W ek) (tD X.K W ed) σ H Q := by
  obtain ⟨ad, xs, env, μ, sr, w, p⟩ := h
  refine ⟨ad, xs, env, μ, sr, w, p.bind.mono fun k H1 ad1 μ1 e1 w1 q y rk => ⟨ad1, xs, env, μ1, sr.ext e1, w1, q.bind.mono fun d H2 ad2 μ2 e2 w2 q2 v r => ?_⟩⟩
  dsimp only at q2
  cases hf : dFind μ2 d k with
  | none => rw [hf] at q2; exact q2.elim
  | some o =>
    rw [hf] at q2
    obtain ⟨a, rfl, ⟨h1, h2⟩ | ⟨p0, u, h1, h2, h3⟩⟩ := dFind_rep w2 r (rk.ext e2) hf
    · subst h1
      exact ⟨a, none, rfl, h2, q2.ok w2 _ (.bl _)⟩
    · subst h1
      exact ⟨a, some u, rfl, h2, q2.ok w2 _ (.bl _)⟩
theorem se_din (hr : Rm j X.A) (hi : SE X W i ek) (ho : SE X W o ed) (hm : behindInMarks .In o = false := by rfl) : SE X W (.Compare i [.In] [o] pos) (eDIn ek ed) := pe_imp (pe_cmp (pc_din (hu1 hr) hi ho) hm) fun _ _ _ h => din_core h
theorem st_din (hr : Rm j X.A) (hi : SE X W i ek) (ho : SE X W o ed) (hm : behindInMarks .In o = false := by rfl) : ST X W (.Compare i [.In] [o] pos) (eTst (eDIn ek ed)) := pt_imp (pt_cmp (pc_din (hu1 hr) hi ho) hm) fun _ _ _ h => din_core (tst_core h)
theorem se_dnotin (hr : Rm j X.A) (hi : SE X W i ek) (ho : SE X W o ed) (hm : behindInMarks .NotIn o = false := by rfl) : SE X W (.Compare i [.NotIn] [o] pos) (eDNotIn ek ed) := pe_imp (pe_cmp (pc_dnotin (hu1 hr) hi ho) hm) fun _ _ _ h => dnotin_core h
theorem st_dnotin (hr : Rm j X.A) (hi : SE X W i ek) (ho : SE X W o ed) (hm : behindInMarks .NotIn o = false := by rfl) : ST X W (.Compare i [.NotIn] [o] pos) (eTst (eDNotIn ek ed)) := pt_imp (pt_cmp (pc_dnotin (hu1 hr) hi ho) hm) fun _ _ _ h => dnotin_core (tst_core h)
theorem se_dget2 (hr : Rm j X.A) (ho : SE X W o ed) (he : SE X W e ek) (hf : SE X W f ex) (m : M2 X o "get" apos e f cpos := by exact ⟨rfl, rfl, rfl, rfl⟩) : SE X W (.Call (.Attribute o "get" apos) [e, f] [] cpos) (eDGet2 ed ek ex) :=
  pe_imp (pe_dget2 (hu1 hr) ho he hf m) fun σ H Q h => by
    obtain ⟨ad, xs, env, μ, sr, w, p⟩ := h
    refine ⟨ad, xs, env, μ, sr, w, p.bind.mono fun d H1 ad1 μ1 e1 w1 q v r => ?_⟩
    dsimp only at q
    by_cases hd : isDic μ1 d = true
    · rw [if_pos hd] at q
      obtain ⟨a, rfl, isd⟩ := isDic_rep w1 r hd
      refine ⟨a, rfl, isd, ad1, xs, env, μ1, sr.ext e1, w1, q.bind.mono fun k H2 ad2 μ2 e2 w2 q2 y rk => ⟨ad2, xs, env, μ2, (sr.ext e1).ext e2, w2, q2.bind.mono fun x H3 ad3 μ3 e3 w3 q3 z rx => ?_⟩⟩
      dsimp only at q3
      cases hf : dFind μ3 d k with
      | none => rw [hf] at q3; exact q3.elim
      | some o =>
        rw [hf] at q3
        obtain ⟨a', ea', ⟨h1, h2⟩ | ⟨p0, u, h1, h2, h3⟩⟩ := dFind_rep w3 ((r.ext e2).ext e3) (rk.ext e3) hf
        · cases ea'
          subst h1
          exact ⟨none, h2, q3.ok w3 _ rx⟩
        · cases ea'
          subst h1
          exact ⟨some u, h2, q3.ok w3 _ h3⟩
    · rw [if_neg hd] at q
      exact q.elim
theorem se_dget1 (hr : Rm j X.A) (ho : SE X W o ed) (he : SE X W e ek) (m : M1 X o "get" apos e cpos := by exact ⟨rfl, rfl, rfl, rfl⟩) : SE X W (.Call (.Attribute o "get" apos) [e] [] cpos) (eDGet1 ed ek) :=
  pe_imp (pe_dget1 (hu1 hr) ho he m) fun σ H Q h => by
    obtain ⟨ad, xs, env, μ, sr, w, p⟩ := h
    refine ⟨ad, xs, env, μ, sr, w, p.bind.mono fun d H1 ad1 μ1 e1 w1 q v r => ?_⟩
    dsimp only at q
    by_cases hd : isDic μ1 d = true
    · rw [if_pos hd] at q
      obtain ⟨a, rfl, isd⟩ := isDic_rep w1 r hd
      refine ⟨a, rfl, isd, ad1, xs, env, μ1, sr.ext e1, w1, q.bind.mono fun k H2 ad2 μ2 e2 w2 q2 y rk => ?_⟩
      dsimp only at q2
      cases hf : dFind μ2 d k with
      | none => rw [hf] at q2; exact q2.elim
      | some o =>
        rw [hf] at q2
        obtain ⟨a', ea', ⟨h1, h2⟩ | ⟨p0, u, h1, h2, h3⟩⟩ := dFind_rep w2 (r.ext e2) rk hf
        · cases ea'
          subst h1
          exact ⟨none, h2, q2.ok w2 _ .non⟩
        · cases ea'
          subst h1
          exact ⟨some u, h2, q2.ok w2 _ h3⟩
    · rw [if_neg hd] at q
      exact q.elim
theorem se_setd (ho : SE X W o ed) (he : SE X W e ek) (hf : SE X W f ex) (m : M2 X o "setdefault" apos e f cpos := by exact ⟨rfl, rfl, rfl, rfl⟩) : SE X W (.Call (.Attribute o "setdefault" apos) [e, f] [] cpos) (eSetd ed ek ex) :=
  pe_imp (pe_dsetd ho he hf m) fun σ H Q h => by
    obtain ⟨ad, xs, env, μ, sr, w, p⟩ := h
    refine ⟨ad, xs, env, μ, sr, w, p.bind.mono fun d H1 ad1 μ1 e1 w1 q v r => ?_⟩
    dsimp only at q
    by_cases hd : isDic μ1 d = true
    · rw [if_pos hd] at q
      obtain ⟨a, rfl, isd⟩ := isDic_rep w1 r hd
      refine ⟨a, rfl, isd, ad1, xs, env, μ1, sr.ext e1, w1, q.bind.mono fun k H2 ad2 μ2 e2 w2 q2 y rk => ⟨ad2, xs, env, μ2, (sr.ext e1).ext e2, w2, q2.bind.mono fun x H3 ad3 μ3 e3 w3 q3 z rx => ?_⟩⟩
      dsimp only at q3
      cases hf : dFind μ3 d k with
      | none => rw [hf] at q3; exact q3.elim
      | some o =>
        cases hp : dPut μ3 d k x with
        | none => rw [hf, hp] at q3; cases o <;> exact q3.elim
        | some μ' =>
          rw [hf, hp] at q3
          have rd := (r.ext e2).ext e3
          obtain ⟨a1, kvs, k', ea1, g1, ey, hl, w4, e4⟩ := dPut_rep w3 rd (rk.ext e3) rx hp
          cases ea1
          subst ey
          refine ⟨kvs, k', g1, rfl, hl, fun u hu => ?_, fun hn => ?_⟩
          · obtain ⟨a', ea', ⟨h1, h2⟩ | ⟨p0, u0, h1, h2, h3⟩⟩ := dFind_rep w3 rd (rk.ext e3) hf
            · cases ea'
              have := dget_fun g1 h2
              rw [hu] at this; cases this
            · cases ea'
              subst h1
              have := dget_fun g1 h2
              rw [hu] at this
              cases this
              exact q3.ok w3 _ h3
          · obtain ⟨a', ea', ⟨h1, h2⟩ | ⟨p0, u0, h1, h2, h3⟩⟩ := dFind_rep w3 rd (rk.ext e3) hf
            · cases ea'
              subst h1
              exact Post.ok_at q3 e4 w4 _ (rx.ext e4)
            · cases ea'
              have := dget_fun g1 h2
              rw [hn] at this; cases this
    · rw [if_neg hd] at q
      exact q.elim
theorem ss_dput (hr : Rm j X.A) (ho : SE X W o ed) (hi : SE X W i ek) (hv : SE X W e ev) (hs : swapsWith e (some (.Subscript o i p2)) pos.line X.env = pure false := by rfl) : SS X W (.Assign [.Subscript o i p2] e pos) (sDPutE ed ek ev) :=
  ps_imp (ps_dput (hu1 hr) ho hi hv hs) fun D σ H h => by
    obtain ⟨ad, xs, env, μ, sr, w, p⟩ := h
    refine ⟨ad, xs, env, μ, sr, w, p.bind.mono fun x H1 ad1 μ1 e1 w1 q z rx => ⟨ad1, xs, env, μ1, sr.ext e1, w1, q.bind.mono fun d H2 ad2 μ2 e2 w2 q2 v r => ⟨ad2, xs, env, μ2, (sr.ext e1).ext e2, w2, q2.bind.mono fun k H3 ad3 μ3 e3 w3 q3 y rk => ?_⟩⟩⟩
    dsimp only at q3
    cases hp : dPut μ3 d k x with
    | none => rw [hp] at q3; exact q3.elim
    | some μ' =>
      rw [hp] at q3
      obtain ⟨a, kvs, k', rfl, g1, rfl, hl, w4, e4⟩ := dPut_rep w3 (r.ext e3) rk ((rx.ext e2).ext e3) hp
      exact ⟨a, _, rfl, DPut.k g1 hl, (Post.ok_at q3 e4 w4) σ ((((sr.ext e1).ext e2).ext e3).ext e4)⟩
end

/-! ### dicts by tuples that are written as keys -/
def ditAt (μ : Store) : D → Option (Nat × List (List Key × PyData))
  | .ref l => match μ[l]? with
    | some (.dit kvs) => some (l, kvs)
    | _ => none
  | _ => none
def eTGet (ed : EvE) (ea : EvA) : EvE := fun env μ => (ed env μ).bind fun p => (ea env p.2).bind fun q => match ditAt q.2 p.1, asKs q.1 with
  | some r, some ks => match lk r.2 ks with
    | some d => if q.1.length ≤ sizeLine then .ok (.pd d, q.2) else .stuck
    | none => .stuck
  | _, _ => .stuck
def sTPut (ed : EvE) (ea : EvA) (ev : EvE) : EvS := fun env μ => (ev env μ).bind fun p => (ed env p.2).bind fun q => (ea env q.2).bind fun r => match ditAt r.2 q.1, asKs r.1, asPd p.1 with
  | some s, some ks, some d => if s.2.length < sizeLine ∧ r.1.length ≤ sizeLine then .ok ((.nx, env), r.2.set s.1 (.dit (pt s.2 ks d))) else .stuck
  | _, _, _ => .stuck
theorem ditAt_rep {K : PySem.W.Frag} {H : Hp} {ad xs : List Addr} {μ : Store} (w : WOk K H ad xs μ) {d : D} {v : V} {p : Nat × List (List Key × PyData)} (rd : Rep K H ad xs d v) (e : ditAt μ d = some p) :
    ∃ a ws, v = .ref a ∧ ad[p.1]? = some a ∧ H a = some (.dT ws) ∧ ws.map (·.1) = p.2.map (·.1) ∧ LyAll K (Im H ad xs) (ws.map (·.2)) (p.2.map (·.2)) ∧ μ[p.1]? = some (.dit p.2) := by
  cases d with
  | ref l =>
    obtain ⟨a, g, rfl⟩ := rd
    cases hc : μ[l]? with
    | none => simp [ditAt, hc] at e
    | some c =>
      cases c with
      | dit kvs =>
        simp [ditAt, hc] at e
        subst e
        obtain ⟨ws, k1, k2, k3⟩ := w.cell l a _ g hc
        exact ⟨a, ws, rfl, g, k1, k2, k3, hc⟩
      | _ => simp [ditAt, hc] at e
  | _ => simp [ditAt] at e
section
variable {X : Cx} {W : Wish} {j k : Nat} {o e : Expr} {es : List Expr} {ed ev : EvE} {ea : EvA} {pos p2 pt' : Pos}
theorem se_tget (hr : Rm j X.A) (ho : SE X W o ed) (ha : SA X W es ea) (hs : NoSl (.Tuple es k pt') := by exact fun _ _ => rfl) : SE X W (.Subscript o (.Tuple es k pt') pos) (eTGet ed ea) := pe_imp (pe_dget (hu1 hr) ho (pe_tup ha) hs) fun σ H Q h => by
  obtain ⟨ad, xs, env, μ, sr, w, p⟩ := h
  refine ⟨ad, xs, env, μ, sr, w, p.bind.mono fun d H1 ad1 μ1 e1 w1 q v r => ⟨ad1, xs, env, μ1, sr.ext e1, w1, q.bind.mono fun ds H2 ad2 μ2 e2 w2 q2 vs rs => ?_⟩⟩
  dsimp only at q2
  cases hd : ditAt μ2 d with
  | none => rw [hd] at q2; exact q2.elim
  | some p0 =>
    cases hk : asKs ds with
    | none => rw [hd, hk] at q2; exact q2.elim
    | some ks =>
      rw [hd, hk] at q2
      dsimp only at q2
      cases hl : lk p0.2 ks with
      | none => rw [hl] at q2; exact q2.elim
      | some c =>
        rw [hl] at q2
        dsimp only at q2
        by_cases hz : ds.length ≤ sizeLine
        · rw [if_pos hz] at q2
          refine ⟨by rw [← RepAll.length rs]; exact hz, fun t ht => ?_⟩
          obtain ⟨w3, e3, i3⟩ := w2.new (o := .tup vs) ht
          obtain ⟨a, ws, rfl, g, k1, k2, k3, _⟩ := ditAt_rep w2 (r.ext e2) hd
          have ev := asKs_rep hk rs
          subst ev
          have ka : upd H2 t (.tup (ks.map kV)) a = some (.dT ws) := (upd_ne (ne_of_none k1 ht)).trans k1
          have dg := DGet.t (k := ks) ka (Im_le _ _ i3)
          rcases lk_ly ks k2 k3 with ⟨h1, h2⟩ | ⟨d', v', h1, h2, h3⟩
          · rw [hl] at h1; cases h1
          · rw [hl] at h1
            cases h1
            rw [h2] at dg
            exact ⟨a, v', rfl, dg, Post.ok_at q2 e3 w3 _ (Ly.grow e3.same h3)⟩
        · rw [if_neg hz] at q2
          exact q2.elim
theorem ss_tput (hr : Rm j X.A) (ho : SE X W o ed) (ha : SA X W es ea) (hv : SE X W e ev) (hs : swapsWith e (some (.Subscript o (.Tuple es k pt') p2)) pos.line X.env = pure false := by rfl) : SS X W (.Assign [.Subscript o (.Tuple es k pt') p2] e pos) (sTPut ed ea ev) :=
  ps_imp (ps_dput (hu1 hr) ho (pe_tup ha) hv hs) fun D σ H h => by
    obtain ⟨ad, xs, env, μ, sr, w, p⟩ := h
    refine ⟨ad, xs, env, μ, sr, w, p.bind.mono fun x H1 ad1 μ1 e1 w1 q z rx => ⟨ad1, xs, env, μ1, sr.ext e1, w1, q.bind.mono fun d H2 ad2 μ2 e2 w2 q2 v r => ⟨ad2, xs, env, μ2, (sr.ext e1).ext e2, w2, q2.bind.mono fun ds H3 ad3 μ3 e3 w3 q3 vs rs => ?_⟩⟩⟩
    dsimp only at q3
    cases hd : ditAt μ3 d with
    | none => rw [hd] at q3; exact q3.elim
    | some p0 =>
      cases hk : asKs ds with
      | none => rw [hd, hk] at q3; exact q3.elim
      | some ks =>
        cases x with
        | pd c =>
          rw [hd, hk] at q3
          simp only [asPd] at q3
          by_cases hz : p0.2.length < sizeLine ∧ ds.length ≤ sizeLine
          · rw [if_pos hz] at q3
            refine ⟨by rw [← RepAll.length rs]; exact hz.2, fun t ht => ?_⟩
            obtain ⟨w4, e4, i4⟩ := w3.new (o := .tup vs) ht
            obtain ⟨a, ws, ea1, g, k1, k2, k3, hc⟩ := ditAt_rep w4 ((r.ext e3).ext e4) hd
            subst ea1
            have evs := asKs_rep hk rs
            subst evs
            have lv : Ly X.K (Im (upd H3 t (.tup (ks.map kV))) ad3 xs) z c := ((rx.ext e2).ext e3).ext e4
            have em : ∀ o', Im (upd (upd H3 t (.tup (ks.map kV))) a o') ad3 xs = Im (upd H3 t (.tup (ks.map kV))) ad3 xs := fun o' => by
              funext b
              unfold Im upd
              by_cases eb : b = a
              · subst eb; simp [List.mem_of_getElem? g]
              · simp [eb]
            obtain ⟨p1, p2⟩ := pt_ly (k := ks) lv k2 k3
            obtain ⟨w5, e5⟩ := w4.write (o := .dT (putK ws ks z)) (c := .dit (pt p0.2 ks c)) g ⟨_, upd_same, p1, by rw [em]; exact p2⟩
            exact ⟨a, _, rfl, DPut.t k1 (Im_le _ _ i4) (by rw [keys_len k2]; exact hz.1), (Post.ok_at q3 (e4.trans e5) w5) σ (((((sr.ext e1).ext e2).ext e3).ext e4).ext e5)⟩
          · rw [if_neg hz] at q3
            exact q3.elim
        | _ => rw [hd, hk] at q3; simp only [asPd] at q3; exact q3.elim
end

/-! ### lists of lists -/
/-- the places in a list of lists; an empty list is one -/
def llsAt (μ : Store) (l : Nat) : Option (List Nat) := match μ[l]? with
  | some (.lls ls) => some ls
  | some (.lst []) => some []
  | _ => none
/-- o.append(x), x a list that may change -/
def eAppL (eo : EvE) (ea : EvE) : EvE := fun env μ => (eo env μ).bind fun p => match p.1 with
  | .ref l => match llsAt p.2 l with
    | some _ => (ea env p.2).bind fun q => match q.1, llsAt q.2 l with
      | .ref l', some ls => if ls.length < sizeLine then .ok (.pd .none, q.2.set l (.lls (ls ++ [l']))) else .stuck
      | _, _ => .stuck
    | none => .stuck
  | _ => .stuck
/-- o[i] = x, x a list that may change -/
def sSetIxL (eo ei ev : EvE) : EvS := fun env μ => (ev env μ).bind fun p => (eo env p.2).bind fun q => (ei env q.2).bind fun r =>
  match p.1, q.1, asI r.1 with
  | .ref l', .ref l, some i => match llsAt r.2 l with
    | some ls => match ixN ls.length i with
      | some j => .ok ((.nx, env), r.2.set l (.lls (ls.set j l')))
      | none => .stuck
    | _ => .stuck
  | _, _, _ => .stuck
theorem llsAt_rep {K : PySem.W.Frag} {H : Hp} {ad xs : List Addr} {μ : Store} (w : WOk K H ad xs μ) {l : Nat} {a : Addr} {ls : List Nat} (g : ad[l]? = some a) (e : llsAt μ l = some ls) : ∃ as : List Addr, H a = some (.lst (as.map V.ref)) ∧ as.map some = ls.map (fun l => ad[l]?) := by
  unfold llsAt at e
  cases hc : μ[l]? with
  | none => rw [hc] at e; cases e
  | some c =>
    cases c with
    | lls ls' =>
      rw [hc] at e
      cases e
      exact w.cell l a _ g hc
    | lst ds =>
      cases ds with
      | nil =>
        rw [hc] at e
        cases e
        obtain ⟨vs, k1, k2⟩ := w.cell l a _ g hc
        cases k2
        exact ⟨[], k1, rfl⟩
      | cons _ _ => rw [hc] at e; cases e
    | _ => rw [hc] at e; cases e
section
variable {X : Cx} {W : Wish} {o a i e : Expr} {eo ea ei ev : EvE} {apos cpos pos p2 : Pos}
theorem appL_core {σ : L2.St} {H : Hp} {Q : VK} (h : tD X.K W (eAppL eo ea) σ H Q) : tBM X.K "list" rAppend (tD X.K W eo) (tCons (tD X.K W ea) tNil) σ H Q := by
  obtain ⟨ad, xs, env, μ, sr, w, p⟩ := h
  refine ⟨ad, xs, env, μ, sr, w, p.bind.mono fun d H1 ad1 μ1 e1 w1 q v r => ?_⟩
  dsimp only at q
  cases d with
  | ref l =>
    dsimp only at q
    obtain ⟨a, g, rfl⟩ := r
    cases hl : llsAt μ1 l with
    | none => rw [hl] at q; exact q.elim
    | some ls0 =>
      rw [hl] at q
      dsimp only at q
      obtain ⟨as0, k1, _⟩ := llsAt_rep w1 g hl
      refine ⟨.inl ⟨rfl, _, SqL.of k1⟩, ad1, xs, env, μ1, sr.ext e1, w1, q.bind.mono fun d2 H2 ad2 μ2 e2 w2 q2 v2 r2 => ?_⟩
      dsimp only at q2
      cases d2 with
      | ref l' =>
        cases hl2 : llsAt μ2 l with
        | none => rw [hl2] at q2; exact q2.elim
        | some ls =>
          rw [hl2] at q2
          dsimp only at q2
          by_cases hz : ls.length < sizeLine
          · rw [if_pos hz] at q2
            have g2 := e2.get g
            obtain ⟨as, m1, m2⟩ := llsAt_rep w2 g2 hl2
            obtain ⟨a', g', rfl⟩ := r2
            have ln : as.length = ls.length := by simpa using congrArg List.length m2
            obtain ⟨w3, e3⟩ := w2.write (o := .lst ((as ++ [a']).map V.ref)) (c := .lls (ls ++ [l'])) g2 ⟨as ++ [a'], upd_same, by simp [m2, g']⟩
            refine ⟨a, as.map V.ref, .ref a', rfl, rfl, m1, by simp; omega, ?_⟩
            have := Post.ok_at q2 e3 w3 _ .non
            simpa using this
          · rw [if_neg hz] at q2
            exact q2.elim
      | _ => exact q2.elim
  | _ => exact q.elim
theorem se_appL (ho : SE X W o eo) (ha : SE X W a ea) (hbase : attributeBase o "append" X.env (eval o X.env) = eval o X.env := by rfl)
    (hfew : ((backTo cpos (starEach [a] X.env)).all (fun x => !x.1) && (backToKw cpos (keywordEach [] X.env)).all (fun x => x.1.isSome) && decide (([a] : List Expr).length + ([] : List Keyword).length + (if ([] : List Keyword).isEmpty then 0 else 1) < 30)) = true := by rfl)
    (hline : (apos.endLine == cpos.line) = true := by rfl) (hs : starEach [a] X.env = (false, eval a X.env) :: starEach [] X.env := by rfl) (hp : (backTo cpos (starEach [] X.env)).any (·.1) = false := by rfl) :
    SE X W (.Call (.Attribute o "append" apos) [a] [] cpos) (eAppL eo ea) := pe_imp (pe_bm PySem.F.plainAttrs_list PySem.F.slot_list_append PySem.F.type_list_append mt_append ho (pa_cons ha pa_nil hs) hbase hfew hline hs hp) fun _ _ _ h => appL_core h
theorem ss_setIxL (ho : SE X W o eo) (hi : SE X W i ei) (he : SE X W e ev)
    (ha : ∀ v, assign (.Subscript o i p2) X.env v = (do
      let ov ← holding [v] (eval o X.env)
      let iv ← holding [v, ov] (eval i X.env)
      standAt p2
      holding [v, ov, iv] (setItem ov iv v)
      release [v, ov, iv] []) := by intro _; rfl)
    (hs : swapsWithSole [.Subscript o i p2] e pos.line X.env = pure false := by rfl) (hw : swappedStores [.Subscript o i p2] e X.env = pure none := by rfl)
    (h1 : (assignEach [.Subscript o i p2] X.env).map (·.2) = [assign (.Subscript o i p2) X.env] := by rfl) : SS X W (.Assign [.Subscript o i p2] e pos) (sSetIxL eo ei ev) := ps_imp (ps_asg he (pg_sub ho hi set_list ha) hs hw h1) fun D σ H h => by
  obtain ⟨ad, xs, env, μ, sr, w, p⟩ := h
  refine ⟨ad, xs, env, μ, sr, w, p.bind.mono fun d1 H1 ad1 μ1 e1 w1 p1 v1 r1 => ?_⟩
  refine ⟨ad1, xs, env, μ1, sr.ext e1, w1, p1.bind.mono fun d2 H2 ad2 μ2 e2 w2 p2 v2 r2 => ?_⟩
  refine ⟨ad2, xs, env, μ2, (sr.ext e1).ext e2, w2, p2.bind.mono fun d3 H3 ad3 μ3 e3 w3 p3 v3 r3 => ?_⟩
  dsimp only at p3
  cases hi : asI d3 with
  | none => rw [hi] at p3; cases d1 <;> cases d2 <;> exact p3.elim
  | some i =>
    rw [hi] at p3
    cases d1 with
    | ref l' =>
      cases d2 with
      | ref l =>
        dsimp only at p3
        obtain ⟨a, g, rfl⟩ := r2.ext e3
        obtain ⟨a', g', rfl⟩ := (r1.ext e2).ext e3
        cases hc : llsAt μ3 l with
        | none => rw [hc] at p3; exact p3.elim
        | some ls =>
          rw [hc] at p3
          dsimp only at p3
          cases hj : ixN ls.length i with
          | none => rw [hj] at p3; exact p3.elim
          | some j =>
            rw [hj] at p3
            dsimp only at p3
            obtain ⟨as, m1, m2⟩ := llsAt_rep w3 g hc
            have ln : as.length = ls.length := by simpa using congrArg List.length m2
            obtain ⟨w4, e4⟩ := w3.write (o := .lst ((as.set j a').map V.ref)) (c := .lls (ls.set j l')) g ⟨as.set j a', upd_same, by rw [List.map_set, m2, List.map_set, g']⟩
            refine ⟨a, as.map V.ref, i, j, rfl, asI_rep hi r3, m1, by rw [List.length_map, ln]; exact hj, ?_⟩
            have := (Post.ok_at p3 e4 w4) σ ((((sr.ext e1).ext e2).ext e3).ext e4)
            simpa [List.map_set] using this
      | _ => exact p3.elim
    | _ => exact p3.elim
end
end Zd

set_option Elab.async false
set_option linter.all false
set_option maxRecDepth 100000
set_option maxHeartbeats 4000000
/-! Constants of the module; the end of a law. -/
namespace Zd
open PySem PySem.Spec PyProof.Rows L2

/-- a constant of the module, by value -/
structure CK (K : PySem.W.Frag) (mg : Str → Option Value) (x : Str) (d : PyData) : Prop where
  ex : ∃ v u, mg x = some u ∧ L2.RelV v u ∧ ∀ H, Ly K H v d
theorem se_const {X : Cx} {W : Wish} {x : Str} {d : PyData} {pos : Pos} (c : CK X.K X.mg x d) (hg : Gl X x := by rfl) (hd : (x == ("__debug__" : Str)) = false := by decide) : SE X W (.Name x pos) (eC d) := by
  obtain ⟨v, u, h1, h2, h3⟩ := c.ex
  exact se_glob hg h1 h2 h3 hd

/-! ### len of a list of lists -/
def lenD (μ : Store) : D → Option Nat
  | .ref l => match μ[l]? with
    | some (.lst ds) => some ds.length
    | some (.lls ls) => some ls.length
    | _ => none
  | _ => none
def eLenL (ea : EvE) : EvE := fun env μ => (ea env μ).bind fun p => match lenD p.2 p.1 with
  | some n => .ok (.pd (.int (n : Int)), p.2)
  | none => .stuck
theorem lenD_rep {K : PySem.W.Frag} {H : Hp} {ad xs : List Addr} {μ : Store} (w : WOk K H ad xs μ) {d : D} {v : V} {n : Nat} (r : Rep K H ad xs d v) (e : lenD μ d = some n) : ∃ a vs, v = .ref a ∧ SqL K H a vs ∧ vs.length = n := by
  cases d with
  | ref l =>
    obtain ⟨a, g, rfl⟩ := r
    cases hc : μ[l]? with
    | none => simp [lenD, hc] at e
    | some c =>
      cases c with
      | lst ds =>
        simp [lenD, hc] at e
        obtain ⟨vs, k1, k2⟩ := w.cell l a _ g hc
        exact ⟨a, vs, rfl, SqL.of k1, by rw [LyAll.length k2]; exact e⟩
      | lls ls =>
        simp [lenD, hc] at e
        obtain ⟨as, k1, k2⟩ := w.cell l a _ g hc
        have := congrArg List.length k2
        exact ⟨a, _, rfl, SqL.of k1, by simp at this ⊢; omega⟩
      | _ => simp [lenD, hc] at e
  | _ => simp [lenD] at e
theorem se_lenL {X : Cx} {W : Wish} {a : Expr} {ea : EvE} {p pos : Pos} (hg : Gl X "len") (hm : X.mg "len" = none) (ha : SE X W a ea)
    (he : starEach [a] X.env = (false, eval a X.env) :: starEach [] X.env := by rfl) (hpl : (backTo pos (starEach [] X.env)).any (·.1) = false := by rfl) : SE X W (.Call (.Name "len" p) [a] [] pos) (eLenL ea) :=
  pe_imp (pe_callB call_len_seq hg hm PySem.boot_len (pa_cons ha pa_nil he) (by decide) (by decide) he hpl) fun σ H Q h => by
    obtain ⟨ad, xs, env, μ, sr, w, p⟩ := h
    refine ⟨ad, xs, env, μ, sr, w, p.bind.mono fun d H1 ad1 μ1 e1 w1 q v r => ?_⟩
    dsimp only at q
    cases hl : lenD μ1 d with
    | none => rw [hl] at q; exact q.elim
    | some n =>
      rw [hl] at q
      obtain ⟨a, vs, rfl, h1, h2⟩ := lenD_rep w1 r hl
      exact ⟨a, vs, rfl, .inl h1, by rw [h2]; exact q.ok w1 _ (.int _)⟩

/-- a tuple of ints, as an object -/
def isTupI (o : Obj) (is : List Int) : Bool := (o.cls == .type "tuple") && match o.data with
  | .seq its _ => match its.toList, is with
    | [.int a _, .int b _], [c, d] => a == c && b == d
    | _, _ => false
  | _ => false
theorem ck_tupI {K : PySem.W.Frag} {mg : Str → Option Value} {x : Str} {g : Addr} {o : Obj} {a b : Int} (hm : mg x = some (.ref g)) (hl : K.lookup g = some o) (hi : isTupI o [a, b] = true) : CK K mg x (.tuple [.int a, .int b]) := by
  unfold isTupI at hi
  rw [Bool.and_eq_true] at hi
  obtain ⟨h1, h2⟩ := hi
  cases hd : o.data with
  | seq its n =>
    rw [hd] at h2
    dsimp only at h2
    split at h2
    · rename_i a' t b' t' c d e1 e2
      cases e2
      simp only [Bool.and_eq_true, beq_iff_eq] at h2
      obtain ⟨rfl, rfl⟩ := h2
      refine ⟨.ref g, _, hm, rfl, fun H => .tup (.inr ⟨o, its, n, hl, by simpa using h1, hd, ?_, ?_⟩) (.cons (.int a') (.cons (.int b') .nil))⟩
      · have : its.size = 2 := by rw [← Array.length_toList, e1]; rfl
        rw [this]
        decide
      · rw [e1]
        exact .cons ⟨t, rfl⟩ (.cons ⟨t', rfl⟩ .nil)
    · cases h2
  | _ => rw [hd] at h2; cases h2

/-! ### the end of a law -/
/-- the law's def, called at the script: the heap H tells the script alone -/
theorem call_at {P : Program} {w : World} {K : PySem.W.Frag} {mg mb : Str → Option Value} {k : Nat} {fa a : Addr} {fd : FuncData} {x : Str} {sp : Sq} {s1 : Shared} {us : List Value} {H : Hp}
    (kin : K.In s1.heap) (hg : s1.heap.Ns mainGlobals mg) (hb : s1.heap.Ns builtinsNs mb) (hbb : ∀ y : Str, y ≠ "__name__" → mb y = bootBuiltins y) (hlim : s1.heap.NoLimit) (hgen : s1.gens = #[])
    (ha : s1.heap.get? a = some { cls := .type "list", data := .seq us.toArray }) (hr : Rm k callerA) (F : ∀ base : Heap, K.In base → base.Ns mainGlobals mg → FK P w K mg base k fa fd [x] sp)
    (bd : ∀ (s : Shared) (u : Value), BindsTo s fd ⟨[u], []⟩ [(x, u)]) (hsp : sp [.ref a] H fun v _ => v = .bl true)
    (ok : HOk P w H s1.heap) (only : Only H) (alone : ∀ b, H b ≠ none → b = a) (apart : H a ≠ none → K.lookup a = none) :
    codeAny (model P w) callerA (.call (.ref fa) ⟨[.ref a], []⟩) (fun r s' => r = .ok (.ret (.bool true)) ∧ OldK s1.heap s'.heap ∧ s'.os = s1.os ∧ AllBare s'.gens) s1 := by
  have plain : ∀ {b : Addr}, b ≠ a → H b = none := fun {b} hne => Classical.byContradiction fun z => hne (alone b z)
  have notDict : ∀ {b : Addr} {o : Obj} {es : Array DictEntry} {ep : Nat}, s1.heap.get? b = some o → o.data = .dict es ep → H b = none := by
    intro b o es ep e d
    by_cases z : b = a
    · rw [z, ha] at e
      cases e
      cases (show Data.seq us.toArray _ = Data.dict es ep from d)
    · exact plain z
  have ns2 : ∀ {b : Addr} {m : Str → Option Value}, s1.heap.Ns b m → (hidT s1.heap H).Ns b m := by
    rintro b m ⟨o, es, ep, e, d, r⟩
    exact ⟨o, es, ep, hidT_get e (notDict e d), d, r⟩
  have kin2 : K.In (hidT s1.heap H) := by
    intro b o e
    refine hidT_get (kin b o e) ?_
    by_cases z : b = a
    · refine Classical.byContradiction fun q => ?_
      subst z
      rw [apart q] at e
      cases e
    · exact plain z
  obtain ⟨mc, l1, l2⟩ := hlim
  have md : Mod K mg (hidT s1.heap H) := ⟨kin2, ns2 hg, ⟨mb, ns2 hb, hbb⟩, ⟨mc, ns2 l1, l2⟩⟩
  have e0 : Env0 P w K mg (hidT s1.heap H) callerA [] s1 H := by
    refine ⟨rfl, md, fun b o e => of_hidT e, Nat.le_of_eq (hidT_size _ _), trivial, fun b z => ?_, ok, .of_eq hgen⟩
    exact absurd (show b ∈ ([] : List Addr) from z) (by simp)
  refine codeAny_mono ((F _ kin2 (ns2 hg)).run callerA [] s1 H ⟨[.ref a], []⟩ [.ref a] [.ref a] _ hr e0 (bd s1 (.ref a)) (.cons rfl .nil) hsp) fun r s' h => ?_
  match r, h with
  | .ok (.ret u), ⟨v, H', os, bare, un, ok', rv, qv⟩ =>
    cases (show v = V.bl true from qv)
    cases (show u = Value.bool true from rv)
    refine ⟨rfl, OldK.of_keep fun b o e => ?_, os, bare⟩
    cases z : H b with
    | none => exact un.keep b o e z (fun y => absurd (show b ∈ ([] : List Addr) from y) (by simp)) (by simp)
    | some t =>
      rcases only b with y | ⟨ob, xs, y⟩
      · rw [z] at y
        cases y
      · obtain ⟨g1, _⟩ := ok b _ y
        obtain ⟨g2, _⟩ := ok' b _ (un.frzs b ob _ y)
        rw [e] at g1
        cases g1
        exact g2
/-- a law's def by value: what is left when the head is done -/
theorem walk_val {l : PySem.W.OpenLaw} {n k : Nat} {q : Program} {loose : List Str} {XP : (Str → Option Value) → Heap → Prop} {YP : World → Heap → Prop} {d : DefRec} {Kf : Params → PySem.W.Frag} {G : FnS} {x : Str}
    (hn : l.most = some n) (hn2 : n ≤ sizeLine) (hdf : d.params.defaults = []) (hr : Rm k callerA) (hY : ∀ (w : World) (h : Heap), YP w h → (Kf w.params).In h)
    (F : ∀ (w : World) (mg : Str → Option Value) (fa : Addr) (h : Heap), (Kf w.params).In h → h.Ns mainGlobals mg → mg d.name = some (.ref fa) →
      ∃ fd : FuncData, (∀ (s : Shared) (u : Value), BindsTo s fd ⟨[u], []⟩ [(x, u)]) ∧ ∀ base : Heap, (Kf w.params).In base → base.Ns mainGlobals mg → FK l.prog w (Kf w.params) mg base k fa fd [x] (spS (Kf w.params) 1 G))
    (hG : ∀ ns : List Int, ns.length ≤ n → (∀ z ∈ ns, Builtin.Int.intBits z ≤ 1048576) → ∃ μ, G [.scr ns] [] = .ok (.pd (.bool true), μ)) :
    PySem.W.WalkO q loose XP YP l.row.toRowW d [] (fun f vs => PySem.call f vs) := by
  refine Att.attach_callB hn hdf fun w s0 s1 mg mb fa o pm cd doc a us ns Gr Y ho hd hcd hmg hobj hints hlen hbits hg => ?_
  have kin := hY w _ Y
  obtain ⟨fd, hb, hF⟩ := F w mg fa _ kin Gr.T.g hmg
  obtain ⟨μf, hval⟩ := hG ns hlen hbits
  have vs := vals_ints hints
  have lv := hints.length
  have wish : ∀ H : Hp, SqL (Kf w.params) H a (ns.map V.int) → spS (Kf w.params) 1 G [.ref a] H fun v _ => v = .bl true := by
    intro H hS
    have eI : Im H [] [] = H := by
      funext b
      simp [Im]
    refine ⟨[], [], [], [.scr ns], rfl, ⟨rfl, by simp, fun b hb => by simp at hb, fun l b c e => by simp at e⟩, .cons ⟨a, rfl, by rw [eI]; exact hS⟩ .nil, ?_⟩
    rw [hval]
    intro H' ad' _ _ v rv
    cases rv
    rfl
  by_cases z : (Kf w.params).lookup a = none
  · have hH : ∀ b u, (if b = a then some (HO.frz { cls := .type "list", data := .seq us.toArray } (.lst (ns.map V.int))) else none) = some u → b = a ∧ u = HO.frz { cls := .type "list", data := .seq us.toArray } (.lst (ns.map V.int)) := by
      intro b u e
      split at e
      · cases e
        exact ⟨by assumption, rfl⟩
      · cases e
    refine call_at kin Gr.T.g Gr.T.b Gr.T.builtins Gr.T.nolimit hg hobj hr hF hb (H := fun b => if b = a then some (HO.frz { cls := .type "list", data := .seq us.toArray } (.lst (ns.map V.int))) else none)
      (wish _ (.inl (.inr ⟨_, if_pos rfl⟩))) (fun b u e => ?_) (fun b => ?_) (fun b e => ?_) fun _ => z
    · obtain ⟨rfl, rfl⟩ := hH b u e
      exact ⟨hobj, by rw [List.length_map]; exact Nat.le_trans hlen hn2, us, _, vs, hobj⟩
    · by_cases y : b = a
      · exact .inr ⟨_, _, if_pos y⟩
      · exact .inl (if_neg y)
    · by_cases y : b = a
      · exact y
      · exact absurd (if_neg y) e
  · obtain ⟨ob, hob⟩ := Option.ne_none_iff_exists'.mp z
    have e := kin a ob hob
    rw [hobj] at e
    cases e
    have eN : ∀ b u, (fun _ => none : Hp) b = some u → False := fun b u e => by cases e
    exact call_at kin Gr.T.g Gr.T.b Gr.T.builtins Gr.T.nolimit hg hobj hr hF hb (H := fun _ => none) (wish _ (.inr ⟨_, us.toArray, _, hob, rfl, rfl, rfl, by rw [List.size_toArray, lv]; exact Nat.le_trans hlen hn2, by simpa using vs⟩))
      (fun b u e => (eN b u e).elim) (fun _ => .inl rfl) (fun b e => absurd rfl e) fun e => absurd rfl e
end Zd

set_option Elab.async false
set_option linter.all false
set_option maxRecDepth 100000
set_option maxHeartbeats 4000000
/-! What the readings by value evaluate to: rules for simp. -/
namespace Zd
open PySem PySem.Spec PyProof.Rows L2
section
variable {env : Env} {μ : Store} {a b c : EvE} {s t : EvS} {ta tb : EvT} {ea : EvA}
@[simp] theorem v_var (i : Nat) {d : D} (h : env[i]? = some (some d)) : eVar i env μ = .ok (d, μ) := by simp [eVar, h]
@[simp] theorem v_C (d : PyData) : eC d env μ = .ok (.pd d, μ) := rfl
@[simp] theorem v_op2 (f : F2) : eOp2 f a b env μ = (a env μ).bind fun p => (b env p.2).bind fun q => match deref q.2 p.1, deref q.2 q.1 with
  | some x, some y => match f x y with
    | some z => .ok (.pd z, q.2)
    | none => .stuck
  | _, _ => .stuck := rfl
@[simp] theorem v_new2 (f : G2) : eNew2 f a b env μ = (a env μ).bind fun p => (b env p.2).bind fun q => match deref q.2 p.1, deref q.2 q.1 with
  | some x, some y => match f x y with
    | some z => .ok (z, q.2)
    | none => .stuck
  | _, _ => .stuck := rfl
@[simp] theorem v_tst : eTst a env μ = (a env μ).bind fun p => match p.1 with
  | .pd (.bool k) => .ok (k, p.2)
  | _ => .stuck := rfl
@[simp] theorem v_frz (f : EvF) : eFrz f env μ = (f env μ).bind fun p => .ok (.pd (.list p.1), p.2) := rfl
@[simp] theorem v_own (f : EvF) : eOwn f env μ = (f env μ).bind fun p => .ok (.ref p.2.length, p.2 ++ [.lst p.1]) := rfl
@[simp] theorem v_isN : eIsN a env μ = (a env μ).bind fun p => match p.1 with
  | .pd d => .ok (.pd (.bool (isNoneB d)), p.2)
  | _ => .ok (.pd (.bool false), p.2) := rfl
@[simp] theorem v_notN : eNotN a env μ = (a env μ).bind fun p => match p.1 with
  | .pd d => .ok (.pd (.bool (!isNoneB d)), p.2)
  | _ => .ok (.pd (.bool true), p.2) := rfl
@[simp] theorem v_andT : eAndT ta tb env μ = (ta env μ).bind fun p => if p.1 = true then tb env p.2 else .ok (false, p.2) := rfl
@[simp] theorem v_orT : eOrT ta tb env μ = (ta env μ).bind fun p => if p.1 = true then .ok (true, p.2) else tb env p.2 := rfl
@[simp] theorem v_notT : eNotT ta env μ = (ta env μ).bind fun p => .ok (!p.1, p.2) := rfl
@[simp] theorem v_ofT : eOfT ta env μ = (ta env μ).bind fun p => .ok (.pd (.bool p.1), p.2) := rfl
@[simp] theorem v_if : eIf ta a b env μ = (ta env μ).bind fun p => if p.1 = true then a env p.2 else b env p.2 := rfl
@[simp] theorem v_andV : eAndV a b env μ = (a env μ).bind fun p => match p.1 with
  | .pd (.bool k) => if k = true then b env p.2 else .ok (.pd (.bool false), p.2)
  | _ => .stuck := rfl
@[simp] theorem v_orV : eOrV a b env μ = (a env μ).bind fun p => match p.1 with
  | .pd (.bool k) => if k = true then .ok (.pd (.bool true), p.2) else b env p.2
  | _ => .stuck := rfl
@[simp] theorem v_notV : eNotV a env μ = (a env μ).bind fun p => match p.1 with
  | .pd (.bool k) => .ok (.pd (.bool (!k)), p.2)
  | _ => .stuck := rfl
@[simp] theorem v_neg : eNeg a env μ = (a env μ).bind fun p => match p.1 with
  | .pd (.int i) => .ok (.pd (.int (-i)), p.2)
  | _ => .stuck := rfl
@[simp] theorem v_anil : aNil env μ = .ok ([], μ) := rfl
@[simp] theorem v_acons : aCons a ea env μ = (a env μ).bind fun p => (ea env p.2).bind fun q => .ok (p.1 :: q.1, q.2) := rfl
@[simp] theorem v_tup : eTup ea env μ = (ea env μ).bind fun p => match pdAll p.1 with
  | some ps => if ps.length ≤ sizeLine then .ok (.pd (.tuple ps), p.2) else .stuck
  | none => .stuck := rfl
@[simp] theorem v_lst : eLst ea env μ = (ea env μ).bind fun p => match pdAll p.1 with
  | some ps => if ps.length ≤ sizeLine then .ok (ps, p.2) else .stuck
  | none => .stuck := rfl
@[simp] theorem v_call (f : FN) : eCall f ea env μ = (ea env μ).bind fun p => match derefs p.2 p.1 with
  | some ps => match f ps with
    | some z => .ok (.pd z, p.2)
    | none => .stuck
  | none => .stuck := rfl
@[simp] theorem v_callN (f : GN) : eCallN f ea env μ = (ea env μ).bind fun p => match derefs p.2 p.1 with
  | some ps => match f ps with
    | some z => .ok (z, p.2)
    | none => .stuck
  | none => .stuck := rfl
@[simp] theorem v_callP (F : FnP) : eCallP F ea env μ = (ea env μ).bind fun p => match derefs p.2 p.1 with
  | some ps => match F ps with
    | .ok r => if (p.1.all isVal || noL r) = true then .ok (.pd r, p.2) else .stuck
    | _ => .stuck
  | none => .stuck := rfl
@[simp] theorem v_callS (G : FnS) : eCallS G ea env μ = (ea env μ).bind fun p => G p.1 p.2 := rfl
@[simp] theorem v_ix : eIx a b env μ = (a env μ).bind fun p => (b env p.2).bind fun q =>
  match p.1, asI q.1 with
  | .ref l, some i => match q.2[l]? with
    | some (.lst ds) => match atI ds i with
      | some z => .ok (.pd z, q.2)
      | none => .stuck
    | some (.lls ls) => match atI ls i with
      | some k => .ok (.ref k, q.2)
      | none => .stuck
    | _ => .stuck
  | .pd d, some i => match fIx d (.int i) with
    | some z => .ok (.pd z, q.2)
    | none => .stuck
  | _, _ => .stuck := rfl
@[simp] theorem v_oN : oNone env μ = .ok (none, μ) := rfl
@[simp] theorem v_oS : oSome a env μ = (a env μ).bind fun p => match asI p.1 with
  | some i => .ok (some i, p.2)
  | none => .stuck := rfl
@[simp] theorem v_nil : sNil env μ = .ok ((.nx, env), μ) := rfl
@[simp] theorem v_cons : sCons s t env μ = (s env μ).bind fun p => match p.1.1 with
  | .nx => t p.1.2 p.2
  | f => .ok ((f, p.1.2), p.2) := rfl
@[simp] theorem v_forget (vs : List Nat) : sForget vs s env μ = (s env μ).bind fun p => .ok ((p.1.1, wipeE p.1.2 vs), p.2) := rfl
@[simp] theorem v_exp : sExp a env μ = (a env μ).bind fun p => .ok ((.nx, env), p.2) := rfl
@[simp] theorem v_ret : sRet a env μ = (a env μ).bind fun p => .ok ((.rt p.1, env), p.2) := rfl
@[simp] theorem v_retN : sRetN env μ = .ok ((.rt (.pd .none), env), μ) := rfl
@[simp] theorem v_brk : sBrk env μ = .ok ((.bk, env), μ) := rfl
@[simp] theorem v_cnt : sCnt env μ = .ok ((.ct, env), μ) := rfl
@[simp] theorem v_sif : sIf ta s t env μ = (ta env μ).bind fun p => if p.1 = true then s env p.2 else t env p.2 := rfl
@[simp] theorem v_set (T : Tg) : sSet T a env μ = (a env μ).bind fun p => match bindT T p.1 env with
  | some env' => .ok ((.nx, env'), p.2)
  | none => .stuck := rfl
@[simp] theorem v_par (Ts : List Tg) : sPar Ts ea env μ = (ea env μ).bind fun p => match bindTs Ts p.1 env with
  | some env' => .ok ((.nx, env'), p.2)
  | none => .stuck := rfl
@[simp] theorem v_setIx : sSetIx a b c env μ = (c env μ).bind fun p => (a env p.2).bind fun q => (b env q.2).bind fun r =>
  match p.1, q.1, asI r.1 with
  | .pd d, .ref l, some i => match r.2[l]? with
    | some (.lst ds) => match ixN ds.length i with
      | some j => .ok ((.nx, env), r.2.set l (.lst (ds.set j d)))
      | none => .stuck
    | _ => .stuck
  | _, _, _ => .stuck := rfl
@[simp] theorem v_asI (i : Int) : asI (.pd (.int i)) = some i := rfl
@[simp] theorem v_derefs0 : derefs μ [] = some [] := rfl
@[simp] theorem v_derefs1 (p : PyData) (r : List D) : derefs μ (.pd p :: r) = (derefs μ r).map (p :: ·) := rfl
@[simp] theorem v_isVal (p : PyData) : isVal (.pd p) = true := rfl
@[simp] theorem v_isValS (ns : List Int) : isVal (.scr ns) = true := rfl
@[simp] theorem v_isValR (l : Nat) : isVal (.ref l) = false := rfl
@[simp] theorem v_addI (i j : Int) : fAdd (.int i) (.int j) = some (.int (i + j)) := rfl
@[simp] theorem v_subI (i j : Int) : fSub (.int i) (.int j) = some (.int (i - j)) := rfl
@[simp] theorem v_mulI (i j : Int) : fMulI (.int i) (.int j) = if CMulW i j then some (.int (i * j)) else none := rfl
@[simp] theorem v_divI (i j : Int) : fDivZ (.int i) (.int j) = if CDivZ i j then some (.int (i.fdiv j)) else none := rfl
@[simp] theorem v_modI (i j : Int) : fModZ (.int i) (.int j) = if j ≠ 0 then some (.int (i.fmod j)) else none := rfl
@[simp] theorem v_lt (i j : Int) : fLt (.int i) (.int j) = some (.bool (decide (i < j))) := rfl
@[simp] theorem v_le (i j : Int) : fLe (.int i) (.int j) = some (.bool (decide (i ≤ j))) := rfl
@[simp] theorem v_gt (i j : Int) : fGt (.int i) (.int j) = some (.bool (decide (j < i))) := rfl
@[simp] theorem v_ge (i j : Int) : fGe (.int i) (.int j) = some (.bool (decide (j ≤ i))) := rfl
@[simp] theorem v_gcd (i j : Int) : fGcd [.int i, .int j] = some (.int ((Nat.gcd i.natAbs j.natAbs : Nat) : Int)) := rfl
@[simp] theorem v_abs (i : Int) : fAbs [.int i] = some (.int (if i < 0 then -i else i)) := rfl
@[simp] theorem v_int (i : Int) : fInt [.int i] = some (.int i) := rfl
@[simp] theorem v_intB (b : Bool) : fInt [.bool b] = some (.int (if b then 1 else 0)) := rfl
@[simp] theorem v_lenL (ds : List PyData) : fLen [.list ds] = some (.int ds.length) := rfl
@[simp] theorem v_lenT (ds : List PyData) : fLen [.tuple ds] = some (.int ds.length) := rfl
@[simp] theorem v_tupL (ds : List PyData) : fTuple [.list ds] = some (.tuple ds) := rfl
@[simp] theorem v_tupT (ds : List PyData) : fTuple [.tuple ds] = some (.tuple ds) := rfl
@[simp] theorem v_listL (ds : List PyData) : gList [.list ds] = some ds := rfl
@[simp] theorem v_listT (ds : List PyData) : gList [.tuple ds] = some ds := rfl
@[simp] theorem v_addL (xs ys : List PyData) : gAdd (.list xs) (.list ys) = if xs.length + ys.length ≤ sizeLine then some (xs ++ ys) else none := rfl
@[simp] theorem v_ixL (ds : List PyData) (i : Int) : fIx (.list ds) (.int i) = atI ds i := rfl
@[simp] theorem v_ixT (ds : List PyData) (i : Int) : fIx (.tuple ds) (.int i) = atI ds i := rfl
@[simp] theorem v_eqI (i j : Int) : fEq (.int i) (.int j) = some (.bool (decide (i = j))) := by
  simp [fEq, fEqS, fEqD, SeqAt.shaped, PyData.eqv, PyData.canLay0, PyData.depth]; rfl
@[simp] theorem v_neI (i j : Int) : fNe (.int i) (.int j) = some (.bool (!decide (i = j))) := by
  simp [fNe, fNeS, fNeD, SeqAt.shaped, PyData.eqv, PyData.canLay0, PyData.depth]; rfl
theorem at_nat {α : Type} {ds : List α} (j : Nat) : atI ds (j : Int) = ds[j]? := by
  unfold atI
  by_cases h : j < ds.length
  · rw [show ixN ds.length (j : Int) = some j from by unfold ixN; rw [if_pos (by omega), if_pos (by omega)]; simp]
    rfl
  · rw [show ixN ds.length (j : Int) = none from by unfold ixN; rw [if_pos (by omega), if_neg (by omega)]]
    rw [List.getElem?_eq_none (by omega)]
    rfl
@[simp] theorem at_0 {α : Type} (d : α) (r : List α) : atI (d :: r) 0 = some d := at_nat (ds := d :: r) 0
@[simp] theorem at_1 {α : Type} (d e : α) (r : List α) : atI (d :: e :: r) 1 = some e := at_nat (ds := d :: e :: r) 1
@[simp] theorem at_2 {α : Type} (d e f : α) (r : List α) : atI (d :: e :: f :: r) 2 = some f := at_nat (ds := d :: e :: f :: r) 2
theorem at_last {α : Type} {ds : List α} (h : ds ≠ []) : atI ds (-1) = some (ds.getLast h) := by
  unfold atI ixN
  have hl : 0 < ds.length := List.length_pos_iff.mpr h
  rw [if_neg (by decide), if_pos (by omega)]
  have e : ((-1 : Int) + ds.length).toNat = ds.length - 1 := by omega
  show ds[((-1 : Int) + ds.length).toNat]? = _
  rw [e, List.getElem?_eq_getElem (by omega), List.getLast_eq_getElem]
theorem sizeLine_ge {n : Nat} (h : n ≤ 1000) : n ≤ sizeLine := Nat.le_of_lt (small1000 h)
@[simp] theorem startE_def (m : Nat) (ds : List D) : startE m ds = ds.map some ++ List.replicate (m - ds.length) none := rfl
end

/-! ### loops -/
theorem whileN_more {t : EvT} {b : EvS} : ∀ {n : Nat} {env : Env} {μ : Store} (k : Nat), whileN t b n env μ ≠ .stuck → whileN t b (n + k) env μ = whileN t b n env μ
  | 0, _, _, _, h => absurd rfl h
  | n + 1, env, μ, k, h => by
    rw [show n + 1 + k = (n + k) + 1 from by omega]
    unfold whileN at h ⊢
    cases ht : t env μ with
    | ok p =>
      rw [ht] at h
      simp only [Out.ok_bind] at h ⊢
      by_cases hp : p.1 = true
      · rw [if_pos hp] at h ⊢
        rw [if_pos hp]
        cases hb : b env p.2 with
        | ok q =>
          rw [hb] at h
          simp only [Out.ok_bind] at h ⊢
          cases hq : q.1.1 with
          | nx => rw [hq] at h; exact whileN_more k h
          | ct => rw [hq] at h; exact whileN_more k h
          | bk => rfl
          | rt d => rfl
        | exc c fs μ' => rfl
        | stuck => rfl
      · rw [if_neg hp]
        rw [if_neg hp]
    | exc c fs μ' => rfl
    | stuck => rfl
theorem sWhile_eq {t : EvT} {b : EvS} {n : Nat} {env : Env} {μ : Store} {o : Out ((Fl × Env) × Store)} (h : whileN t b n env μ = o) (ho : o ≠ .stuck) : sWhile t b env μ = o := by
  have hx : ∃ n, whileN t b n env μ ≠ .stuck := ⟨n, by rw [h]; exact ho⟩
  unfold sWhile
  rw [dif_pos hx]
  have hc := hx.choose_spec
  rcases Nat.le_total n hx.choose with hl | hl
  · obtain ⟨k, e⟩ := Nat.exists_eq_add_of_le hl
    rw [e, whileN_more k (by rw [h]; exact ho), h]
  · obtain ⟨k, e⟩ := Nat.exists_eq_add_of_le hl
    have := whileN_more k hc
    rw [← e, h] at this
    exact this.symm
/-- a while loop by what holds ahead of each turn, m turns being left at most -/
theorem while_rel {t : EvT} {b : EvS} (P : Nat → Env → Store → Prop) (R : Env → Store → Prop)
    (step : ∀ m env μ, P m env μ → (∃ μ1, t env μ = .ok (false, μ1) ∧ R env μ1) ∨ ∃ μ1 env2 μ2 m', t env μ = .ok (true, μ1) ∧ (b env μ1 = .ok ((.nx, env2), μ2) ∨ b env μ1 = .ok ((.ct, env2), μ2)) ∧ m' < m ∧ P m' env2 μ2) :
    ∀ m env μ, P m env μ → ∃ env' μ', sWhile t b env μ = .ok ((.nx, env'), μ') ∧ R env' μ' := by
  have key : ∀ m env μ, P m env μ → ∃ env' μ', whileN t b (m + 1) env μ = .ok ((.nx, env'), μ') ∧ R env' μ' := by
    intro m
    induction m using Nat.strongRecOn with
    | _ m ih =>
      intro env μ h
      rcases step m env μ h with ⟨μ1, h1, h2⟩ | ⟨μ1, env2, μ2, m', h1, h2, h3, h4⟩
      · refine ⟨env, μ1, ?_, h2⟩
        unfold whileN
        rw [h1]
        simp
      · obtain ⟨env', μ', h5, h6⟩ := ih m' h3 env2 μ2 h4
        refine ⟨env', μ', ?_, h6⟩
        have h7 : whileN t b m env2 μ2 = .ok ((.nx, env'), μ') := by
          obtain ⟨k, e⟩ := Nat.exists_eq_add_of_le (show m' + 1 ≤ m from h3)
          rw [e, whileN_more k (by rw [h5]; exact fun z => by cases z), h5]
        unfold whileN
        rw [h1]
        simp only [Out.ok_bind, if_true]
        rcases h2 with h2 | h2
        · rw [h2]
          simpa using h7
        · rw [h2]
          simpa using h7
  intro m env μ h
  obtain ⟨env', μ', h1, h2⟩ := key m env μ h
  exact ⟨env', μ', sWhile_eq h1 (fun z => by cases z), h2⟩
/-- a for loop by what holds ahead of each turn -/
theorem loop_rel {g : List (Nat × Cell)} {T : Tg} {b : EvS} (P : Nat → Env → Store → Prop) :
    ∀ (items : List D) (i : Nat) (env : Env) (μ : Store), P i env μ → (∀ j env μ, P j env μ → Held g μ) →
      (∀ j d env μ, items[j]? = some d → P (i + j) env μ → ∃ env1 env2 μ2, bindT T d env = some env1 ∧ (b env1 μ = .ok ((.nx, env2), μ2) ∨ b env1 μ = .ok ((.ct, env2), μ2)) ∧ P (i + j + 1) env2 μ2) →
      ∃ env' μ', loopD g T b items env μ = .ok ((.nx, env'), μ') ∧ P (i + items.length) env' μ'
  | [], i, env, μ, h, hh, _ => ⟨env, μ, by unfold loopD; rw [if_pos (hh _ _ _ h)], by simpa using h⟩
  | d :: ds, i, env, μ, h, hh, step => by
    obtain ⟨env1, env2, μ2, h1, h2, h3⟩ := step 0 d env μ rfl h
    obtain ⟨env', μ', h4, h5⟩ := loop_rel P ds (i + 1) env2 μ2 h3 hh fun j d' env μ hj hp => by
      obtain ⟨e1, e2, m2, k1, k2, k3⟩ := step (j + 1) d' env μ (by simpa using hj) (by rw [show i + (j + 1) = i + 1 + j from by omega]; exact hp)
      exact ⟨e1, e2, m2, k1, k2, by rw [show i + 1 + j + 1 = i + (j + 1) + 1 from by omega]; exact k3⟩
    refine ⟨env', μ', ?_, by rw [List.length_cons, show i + (ds.length + 1) = i + 1 + ds.length from by omega]; exact h5⟩
    unfold loopD
    rw [if_pos (hh _ _ _ h), h1]
    rcases h2 with h2 | h2
    · simp [h2, h4]
    · simp [h2, h4]
theorem held_nil {μ : Store} : Held [] μ := fun q hq => by simp at hq
/-- .. from the start -/
theorem for_rel {T : Tg} {b : EvS} {ei : EvI} {env : Env} {μ μ1 : Store} {items : List D} {g : List (Nat × Cell)} (P : Nat → Env → Store → Prop) (hi : ei env μ = .ok ((items, g), μ1)) (h0 : P 0 env μ1) (hh : ∀ j env μ, P j env μ → Held g μ)
    (step : ∀ j d env μ, items[j]? = some d → P j env μ → ∃ env1 env2 μ2, bindT T d env = some env1 ∧ (b env1 μ = .ok ((.nx, env2), μ2) ∨ b env1 μ = .ok ((.ct, env2), μ2)) ∧ P (j + 1) env2 μ2) :
    ∃ env' μ', sFor T ei b env μ = .ok ((.nx, env'), μ') ∧ P items.length env' μ' := by
  obtain ⟨env', μ', h1, h2⟩ := loop_rel P items 0 env μ1 h0 hh (fun j d env μ hj hp => by
    rw [Nat.zero_add] at hp ⊢
    exact step j d env μ hj hp)
  refine ⟨env', μ', ?_, by simpa using h2⟩
  unfold sFor
  rw [hi]
  exact h1
/-- a comprehension over data whose elements are told one by one, the store kept -/
theorem comp_map {g : List (Nat × Cell)} {T : Tg} {tst : EvT} {elt : EvE} {env : Env} {μ : Store} (f : D → Option D) (hh : Held g μ) :
    ∀ (items : List D), (∀ d ∈ items, ∃ env1, bindT T d env = some env1 ∧ match f d with
      | some x => tst env1 μ = .ok (true, μ) ∧ elt env1 μ = .ok (x, μ)
      | none => tst env1 μ = .ok (false, μ)) → compD g T tst elt env items μ = .ok (items.filterMap f, μ)
  | [], _ => by unfold compD; rw [if_pos hh]; rfl
  | d :: ds, h => by
    obtain ⟨env1, h1, h2⟩ := h d (by simp)
    have ih := comp_map f hh ds fun d' hd' => h d' (by simp [hd'])
    unfold compD
    rw [if_pos hh, h1]
    cases hf : f d with
    | none =>
      rw [hf] at h2
      simp [h2, ih, hf]
    | some x =>
      rw [hf] at h2
      simp [h2.1, h2.2, ih, hf]
/-- .. the store carried along -/
theorem comp_rel {g : List (Nat × Cell)} {T : Tg} {tst : EvT} {elt : EvE} {env : Env} (P : Nat → List D → Store → Prop) :
    ∀ (items : List D) (i : Nat) (acc : List D) (μ : Store), P i acc μ → (∀ j a μ, P j a μ → Held g μ) →
      (∀ j d a μ, items[j]? = some d → P (i + j) a μ → ∃ env1 μ1, bindT T d env = some env1 ∧ ((∃ x μ2, tst env1 μ = .ok (true, μ1) ∧ elt env1 μ1 = .ok (x, μ2) ∧ P (i + j + 1) (a ++ [x]) μ2) ∨ (tst env1 μ = .ok (false, μ1) ∧ P (i + j + 1) a μ1))) →
      ∃ r μ', compD g T tst elt env items μ = .ok (r, μ') ∧ P (i + items.length) (acc ++ r) μ'
  | [], i, acc, μ, h, hh, _ => ⟨[], μ, by unfold compD; rw [if_pos (hh _ _ _ h)], by simpa using h⟩
  | d :: ds, i, acc, μ, h, hh, step => by
    obtain ⟨env1, μ1, h1, h2⟩ := step 0 d acc μ rfl h
    have rest : ∀ acc' μ', P (i + 1) acc' μ' → ∃ r μ'', compD g T tst elt env ds μ' = .ok (r, μ'') ∧ P (i + 1 + ds.length) (acc' ++ r) μ'' := fun acc' μ' hp =>
      comp_rel P ds (i + 1) acc' μ' hp hh fun j d' a μ hj hp => by
        obtain ⟨e1, m1, k1, k2⟩ := step (j + 1) d' a μ (by simpa using hj) (by rw [show i + (j + 1) = i + 1 + j from by omega]; exact hp)
        rw [show i + (j + 1) + 1 = i + 1 + j + 1 from by omega] at k2
        exact ⟨e1, m1, k1, k2⟩
    unfold compD
    rw [if_pos (hh _ _ _ h), h1]
    dsimp only
    rw [List.length_cons, show i + (ds.length + 1) = i + 1 + ds.length from by omega]
    rcases h2 with ⟨x, μ2, h2, h3, h4⟩ | ⟨h2, h4⟩
    · obtain ⟨r, μ'', h5, h6⟩ := rest _ _ h4
      exact ⟨x :: r, μ'', by simp [h2, h3, h5], by simpa using h6⟩
    · obtain ⟨r, μ'', h5, h6⟩ := rest _ _ h4
      exact ⟨r, μ'', by simp [h2, h5], h6⟩
theorem lcD_eq {vs : List Nat} {T : Tg} {ei : EvI} {tst : EvT} {elt : EvE} {env : Env} {μ μ1 μ2 : Store} {items r : List D} {g : List (Nat × Cell)} (hi : ei env μ = .ok ((items, g), μ1)) (hl : items.length ≤ sizeLine) (hc : compD g T tst elt (wipeE env vs) items μ1 = .ok (r, μ2)) :
    eLcD vs T ei tst elt env μ = .ok (r, μ2) := by
  unfold eLcD
  rw [hi]
  simp [hl, hc]
@[simp] theorem v_asF (ea : EvA) (env : Env) (μ : Store) : asF ea env μ = (ea env μ).bind fun p => match pdAll p.1 with
  | some ps => .ok (ps, p.2)
  | none => .stuck := rfl
@[simp] theorem v_ownL (ea : EvA) (env : Env) (μ : Store) : eOwnL ea env μ = (ea env μ).bind fun p => match refAll p.1 with
  | some ls => .ok (.ref p.2.length, p.2 ++ [.lls ls])
  | none => .stuck := rfl
@[simp] theorem pdAll_of (ps : List PyData) : pdAll (ps.map .pd) = some ps := by
  induction ps with
  | nil => rfl
  | cons p r ih => simp [ih]
@[simp] theorem refAll_of (ls : List Nat) : refAll (ls.map .ref) = some ls := by
  induction ls with
  | nil => rfl
  | cons l r ih => simp [refAll, ih]

@[simp] theorem pdAll_comp {α : Type} (f : α → PyData) (l : List α) : pdAll (l.map (D.pd ∘ f)) = some (l.map f) := by
  induction l with
  | nil => rfl
  | cons p r ih => simp [ih]
@[simp] theorem pdAll_fun {α : Type} (f : α → PyData) (l : List α) : pdAll (l.map fun x => D.pd (f x)) = some (l.map f) := pdAll_comp f l
/-- a comprehension over a mapped list, each item kept by p -/
theorem comp_filA {α : Type} {g : List (Nat × Cell)} {T : Tg} {tst : EvT} {elt : EvE} {env : Env} {μ : Store} (hh : Held g μ) (s f : α → D) (p : α → Bool) :
    ∀ (l : List α), (∀ x ∈ l, ∃ env1, bindT T (s x) env = some env1 ∧ tst env1 μ = .ok (p x, μ) ∧ (p x = true → elt env1 μ = .ok (f x, μ))) → compD g T tst elt env (l.map s) μ = .ok ((l.filter p).map f, μ)
  | [], _ => by unfold compD; rw [List.map_nil, List.filter_nil]; simp [hh]
  | x :: r, h => by
    obtain ⟨env1, h1, h2, h3⟩ := h x (by simp)
    have ih := comp_filA hh s f p r fun y hy => h y (by simp [hy])
    rw [List.map_cons]
    unfold compD
    rw [if_pos hh, h1]
    cases hp : p x with
    | false =>
      rw [hp] at h2
      simp [h2, ih, hp]
    | true =>
      rw [hp] at h2
      simp [h2, h3 hp, ih, hp]
theorem comp_mapA {α : Type} {g : List (Nat × Cell)} {T : Tg} {elt : EvE} {env : Env} {μ : Store} (hh : Held g μ) (s f : α → D) (l : List α) (h : ∀ x ∈ l, ∃ env1, bindT T (s x) env = some env1 ∧ elt env1 μ = .ok (f x, μ)) :
    compD g T tYesE elt env (l.map s) μ = .ok (l.map f, μ) := by
  have := comp_filA (tst := tYesE) hh s f (fun _ => true) l fun x hx => by
    obtain ⟨env1, h1, h2⟩ := h x hx
    exact ⟨env1, h1, rfl, fun _ => h2⟩
  rw [List.filter_eq_self.mpr (fun _ _ => rfl)] at this
  exact this

@[simp] theorem v_augIx (f : Int → Int → Int) (a b c : EvE) (env : Env) (μ : Store) : sAugIx f a b c env μ = (a env μ).bind fun p => (b env p.2).bind fun q => match p.1, asI q.1 with
  | .ref l, some i => match q.2[l]? with
    | some (.lst ds0) => match atI ds0 i with
      | some (.int k) => if 0 ≤ i then (c env q.2).bind fun r => match asI r.1, r.2[l]? with
        | some j, some (.lst ds) => match ixN ds.length i with
          | some n => .ok ((.nx, env), r.2.set l (.lst (ds.set n (.int (f k j)))))
          | none => .stuck
        | _, _ => .stuck
        else .stuck
      | _ => .stuck
    | _ => .stuck
  | _, _ => .stuck := rfl
@[simp] theorem v_meth (f : FM) (a : EvE) (ea : EvA) (env : Env) (μ : Store) : eMeth f a ea env μ = (a env μ).bind fun p => match p.1 with
  | .ref l => match p.2[l]? with
    | some (.lst _) => (ea env p.2).bind fun q => match q.2[l]?, pdAll q.1 with
      | some (.lst ds), some ps => match f ds ps with
        | some (c, es) => .ok (.pd c, q.2.set l (.lst es))
        | none => .stuck
      | _, _ => .stuck
    | _ => .stuck
  | _ => .stuck := rfl
@[simp] theorem v_slL (a : EvE) (b c : EvO) (env : Env) (μ : Store) : eSlL a b c env μ = (a env μ).bind fun p => (b env p.2).bind fun q => (c env q.2).bind fun r =>
  match p.1 with
  | .scr ns => .ok (Zd.cutD (ns.map .int) q.1 r.1, r.2)
  | _ => match deref r.2 p.1 with
    | some (.list ds) => .ok (Zd.cutD ds q.1 r.1, r.2)
    | _ => .stuck := rfl
@[simp] theorem v_slT (a : EvE) (b c : EvO) (env : Env) (μ : Store) : eSlT a b c env μ = (a env μ).bind fun p => (b env p.2).bind fun q => (c env q.2).bind fun r =>
  match p.1 with
  | .pd (.tuple ds) => .ok (.pd (.tuple (Zd.cutD ds q.1 r.1)), r.2)
  | _ => .stuck := rfl
@[simp] theorem v_append (ds : List PyData) (p : PyData) : mAppend ds [p] = if ds.length < sizeLine then some (.none, ds ++ [p]) else none := rfl
@[simp] theorem v_pop (ds : List PyData) : mPop ds [] = ds.getLast?.map fun d => (d, ds.dropLast) := rfl
@[simp] theorem ixN_0 (n : Nat) : ixN (n + 1) 0 = some 0 := by
  unfold ixN
  rw [if_pos (by decide), if_pos (by omega)]
  rfl
@[simp] theorem ixN_1 (n : Nat) : ixN (n + 1 + 1) 1 = some 1 := by
  unfold ixN
  rw [if_pos (by decide), if_pos (by omega)]
  rfl
@[simp] theorem ixN_2 (n : Nat) : ixN (n + 1 + 1 + 1) 2 = some 2 := by
  unfold ixN
  rw [if_pos (by decide), if_pos (by omega)]
  rfl
@[simp] theorem at_3 {α : Type} (d e f h : α) (r : List α) : atI (d :: e :: f :: h :: r) 3 = some h := at_nat (ds := d :: e :: f :: h :: r) 3
@[simp] theorem dreff (ds : List PyData) (μ : Store) (l : Nat) (h : μ[l]? = some (.lst ds)) : deref μ (.ref l) = some (.list ds) := by simp [deref, h]

section
variable {env : Env} {μ μ1 μ2 : Store} {a b : EvE}
theorem pw62 : (2 : Int) ^ 62 = 4611686018427387904 := by rfl
theorem in62 {n : Nat} (h : n ≤ 1000) : -(2 ^ 62) ≤ (n : Int) ∧ (n : Int) < 2 ^ 62 := by
  rw [pw62]
  omega
theorem rgA {α : Type} {n : Nat} (hn : n ≤ 1000) (a b : α) : (if -(2 ^ 62) ≤ (n : Int) ∧ (n : Int) < 2 ^ 62 then a else b) = a := if_pos (in62 hn)
theorem rgB {α : Type} {m n : Nat} (hm : m ≤ 1000) (hn : n ≤ 1000) (a b : α) : (if -(2 ^ 62) ≤ (m : Int) ∧ (m : Int) < 2 ^ 62 ∧ -(2 ^ 62) ≤ (n : Int) ∧ (n : Int) < 2 ^ 62 then a else b) = a := if_pos ⟨(in62 hm).1, (in62 hm).2, (in62 hn).1, (in62 hn).2⟩
theorem iRg1_at {n : Int} (h : a env μ = .ok (.pd (.int n), μ1)) : iRg1 a env μ = if -(2 ^ 62) ≤ n ∧ n < 2 ^ 62 then .ok (((List.range n.toNat).map fun (k : Nat) => .pd (.int (k : Int)), []), μ1) else .stuck := by
  unfold iRg1
  rw [h]
  rfl
theorem iRg2_at {m n : Int} (h : a env μ = .ok (.pd (.int m), μ1)) (h2 : b env μ1 = .ok (.pd (.int n), μ2)) : iRg2 a b env μ = if -(2 ^ 62) ≤ m ∧ m < 2 ^ 62 ∧ -(2 ^ 62) ≤ n ∧ n < 2 ^ 62 then .ok (((List.range (n - m).toNat).map fun (k : Nat) => .pd (.int (m + (k : Int))), []), μ2) else .stuck := by
  unfold iRg2
  rw [h]
  dsimp only [Out.bind]
  rw [h2]
  rfl
theorem rg1_ok {n : Nat} (h : a env μ = .ok (.pd (.int (n : Int)), μ1)) (hn : n ≤ 1000) : iRg1 a env μ = .ok (((List.range n).map fun (k : Nat) => D.pd (.int (k : Int)), []), μ1) :=
  (iRg1_at h).trans ((rgA hn _ _).trans (by rw [Int.toNat_natCast]))
theorem rg2_ok {m n : Nat} (h : a env μ = .ok (.pd (.int (m : Int)), μ1)) (h2 : b env μ1 = .ok (.pd (.int (n : Int)), μ2)) (hm : m ≤ 1000) (hn : n ≤ 1000) : iRg2 a b env μ = .ok (((List.range (n - m)).map fun (k : Nat) => D.pd (.int ((m + k : Nat) : Int)), []), μ2) :=
  (iRg2_at h h2).trans ((rgB hm hn _ _).trans (by
    have e : ((n : Int) - (m : Int)).toNat = n - m := by omega
    rw [e]
    simp only [Int.natCast_add]))
end
@[simp] theorem v_tget (ed : EvE) (ea : EvA) (env : Env) (μ : Store) : eTGet ed ea env μ = (ed env μ).bind fun p => (ea env p.2).bind fun q => match ditAt q.2 p.1, asKs q.1 with
  | some r, some ks => match lk r.2 ks with
    | some d => if q.1.length ≤ sizeLine then .ok (.pd d, q.2) else .stuck
    | none => .stuck
  | _, _ => .stuck := rfl
@[simp] theorem v_tput (ed ev : EvE) (ea : EvA) (env : Env) (μ : Store) : sTPut ed ea ev env μ = (ev env μ).bind fun p => (ed env p.2).bind fun q => (ea env q.2).bind fun r => match ditAt r.2 q.1, asKs r.1, asPd p.1 with
  | some s, some ks, some d => if s.2.length < sizeLine ∧ r.1.length ≤ sizeLine then .ok ((.nx, env), r.2.set s.1 (.dit (pt s.2 ks d))) else .stuck
  | _, _, _ => .stuck := rfl
@[simp] theorem v_dicT (env : Env) (μ : Store) : eDicT env μ = .ok (.ref μ.length, μ ++ [.dit []]) := rfl
@[simp] theorem v_dicK (env : Env) (μ : Store) : eDicK env μ = .ok (.ref μ.length, μ ++ [.dic []]) := rfl
@[simp] theorem v_asPd (d : PyData) : asPd (.pd d) = some d := rfl
@[simp] theorem v_asKi (i : Int) : asK (.pd (.int i)) = some (.inl i) := rfl
@[simp] theorem v_asKs0 : asKs [] = some [] := rfl
@[simp] theorem v_asKs1 (i : Int) (r : List D) : asKs (.pd (.int i) :: r) = (asKs r).map (.inl i :: ·) := rfl
theorem ditAt_of {μ : Store} {l : Nat} {kvs : List (List Key × PyData)} (h : μ[l]? = some (.dit kvs)) : ditAt μ (.ref l) = some (l, kvs) := by simp [ditAt, h]
theorem dicAt_of {μ : Store} {l : Nat} {kvs : List (Key × PyData)} (h : μ[l]? = some (.dic kvs)) : dicAt μ (.ref l) = some (l, kvs) := by simp [dicAt, h]
section
variable {κ : Type} [DecidableEq κ]
theorem lk_map (k j : κ) (d : PyData) : ∀ kvs : List (κ × PyData), lk (ptR kvs k d) j = if j = k then (if (lk kvs k).isSome = true then some d else none) else lk kvs j
  | [] => by simp [ptR, lk]
  | p :: r => by
    have ih := lk_map k j d r
    unfold ptR at ih ⊢
    simp only [List.map_cons, lk]
    by_cases h : p.1 = k
    · simp only [h, if_true]
      by_cases hj : j = k
      · subst hj
        simp [lk]
      · rw [if_neg (fun z => hj z.symm), ih, if_neg hj, if_neg hj]
        simp [h, Ne.symm hj]
    · simp only [h, if_false]
      by_cases hj : p.1 = j
      · simp only [hj, if_true]
        rw [if_neg (by rw [← hj]; exact h)]
      · simp only [hj, if_false]
        rw [ih]
theorem lk_app (k j : κ) (d : PyData) : ∀ kvs : List (κ × PyData), lk kvs k = none → lk (kvs ++ [(k, d)]) j = if j = k then some d else lk kvs j
  | [], _ => by
    simp only [List.nil_append, lk]
    by_cases h : k = j
    · simp [h]
    · simp [h, Ne.symm h]
  | p :: r, hn => by
    simp only [lk] at hn
    by_cases hp : p.1 = k
    · rw [if_pos hp] at hn; cases hn
    · rw [if_neg hp] at hn
      have ih := lk_app k j d r hn
      simp only [List.cons_append, lk]
      rw [ih]
      by_cases hj : p.1 = j
      · simp only [hj, if_true]
        rw [if_neg (by rw [← hj]; exact hp)]
      · simp only [hj, if_false]
theorem lk_pt (kvs : List (κ × PyData)) (k j : κ) (d : PyData) : lk (pt kvs k d) j = if j = k then some d else lk kvs j := by
  unfold pt
  split
  · rename_i h
    rw [lk_map, h]
    simp
  · rename_i h
    exact lk_app k j d kvs (by simpa using h)
theorem pt_len (kvs : List (κ × PyData)) (k : κ) (d : PyData) : (pt kvs k d).length ≤ kvs.length + 1 := by
  unfold pt ptR
  split <;> simp
end
@[simp] theorem get_app0 (r : Store) (x : Cell) (t : Store) : (r ++ x :: t)[r.length]? = some x := by simp
@[simp] theorem get_app1 (r : Store) (x y : Cell) (t : Store) : (r ++ x :: y :: t)[r.length + 1]? = some y := by
  rw [List.getElem?_append_right (by omega)]
  simp
@[simp] theorem get_app2 (r : Store) (x y z : Cell) (t : Store) : (r ++ x :: y :: z :: t)[r.length + 2]? = some z := by
  rw [List.getElem?_append_right (by omega)]
  simp
@[simp] theorem set_app0 (r : Store) (x z : Cell) (t : Store) : (r ++ x :: t).set r.length z = r ++ z :: t := by
  rw [List.set_append_right _ _ (Nat.le_refl _)]
  simp
@[simp] theorem set_app1 (r : Store) (x y z : Cell) (t : Store) : (r ++ x :: y :: t).set (r.length + 1) z = r ++ x :: z :: t := by
  rw [List.set_append_right _ _ (by omega)]
  simp
@[simp] theorem set_app2 (r : Store) (x y u z : Cell) (t : Store) : (r ++ x :: y :: u :: t).set (r.length + 2) z = r ++ x :: y :: z :: t := by
  rw [List.set_append_right _ _ (by omega)]
  simp

/-! ### running a def -/
theorem seq_nx {a b : EvS} {env env1 : Env} {μ μ1 : Store} (h : a env μ = .ok ((.nx, env1), μ1)) : sCons a b env μ = b env1 μ1 := by
  rw [v_cons, h]
  rfl
theorem seq_rt {a b : EvS} {env env1 : Env} {μ μ1 : Store} {d : D} (h : a env μ = .ok ((.rt d, env1), μ1)) : sCons a b env μ = .ok ((.rt d, env1), μ1) := by
  rw [v_cons, h]
  rfl
theorem fnL_run {n m : Nat} {ev : EvS} {ds : List D} {μ μ' : Store} {env' : Env} {d : D} (h : ev (startE m ds) μ = .ok ((.rt d, env'), μ')) (hl : ds.length = n) : fnL n m ev ds μ = .ok (d, μ') := by
  unfold fnL
  rw [if_pos hl, h]
theorem fnP_run {n m : Nat} {ev : EvS} {ps : List PyData} {μ' : Store} {env' : Env} {d : D} {r : PyData} (h : ev (startE m (ps.map .pd)) [] = .ok ((.rt d, env'), μ')) (hl : ps.length = n) (hf : frz μ' d = some r) : fnP n m ev ps = .ok r := by
  unfold fnP
  rw [if_pos hl, h]
  dsimp only
  rw [hf]

@[simp] theorem v_dget (a b : EvE) (env : Env) (μ : Store) : eDGet a b env μ = (a env μ).bind fun p => (b env p.2).bind fun q => match dFind q.2 p.1 q.1 with
  | some (some d) => .ok (.pd d, q.2)
  | _ => .stuck := rfl
@[simp] theorem v_din (b a : EvE) (env : Env) (μ : Store) : eDIn b a env μ = (b env μ).bind fun q => (a env q.2).bind fun p => match dFind p.2 p.1 q.1 with
  | some o => .ok (.pd (.bool o.isSome), p.2)
  | _ => .stuck := rfl
@[simp] theorem v_dnotin (b a : EvE) (env : Env) (μ : Store) : eDNotIn b a env μ = (b env μ).bind fun q => (a env q.2).bind fun p => match dFind p.2 p.1 q.1 with
  | some o => .ok (.pd (.bool (!o.isSome)), p.2)
  | _ => .stuck := rfl
@[simp] theorem v_dget2 (a b c : EvE) (env : Env) (μ : Store) : eDGet2 a b c env μ = (a env μ).bind fun p => if isDic p.2 p.1 = true then (b env p.2).bind fun q => (c env q.2).bind fun r => match dFind r.2 p.1 q.1 with
  | some (some d) => .ok (.pd d, r.2)
  | some none => .ok (r.1, r.2)
  | _ => .stuck
  else .stuck := rfl
@[simp] theorem v_setd (a b c : EvE) (env : Env) (μ : Store) : eSetd a b c env μ = (a env μ).bind fun p => if isDic p.2 p.1 = true then (b env p.2).bind fun q => (c env q.2).bind fun r => match dFind r.2 p.1 q.1, dPut r.2 p.1 q.1 r.1 with
  | some (some d), some _ => .ok (.pd d, r.2)
  | some none, some μ' => .ok (r.1, μ')
  | _, _ => .stuck
  else .stuck := rfl
@[simp] theorem v_dput (a b c : EvE) (env : Env) (μ : Store) : sDPutE a b c env μ = (c env μ).bind fun p => (a env p.2).bind fun q => (b env q.2).bind fun r => match dPut r.2 q.1 r.1 p.1 with
  | some μ' => .ok ((.nx, env), μ')
  | none => .stuck := rfl
@[simp] theorem v_dF0 (kvs : List (Key × PyData)) (r : Store) (i : Int) : dFind (.dic kvs :: r) (.ref 0) (.pd (.int i)) = some (lk kvs (.inl i)) := rfl
@[simp] theorem v_isD0 (kvs : List (Key × PyData)) (r : Store) : isDic (.dic kvs :: r) (.ref 0) = true := rfl
theorem v_dP0 (kvs : List (Key × PyData)) (r : Store) (i : Int) (d : PyData) (h : kvs.length < sizeLine) : dPut (.dic kvs :: r) (.ref 0) (.pd (.int i)) (.pd d) = some (.dic (pt kvs (.inl i) d) :: r) := by
  simp [dPut, dicAt, h]
@[simp] theorem v_tru (a : EvE) (env : Env) (μ : Store) : eTru a env μ = (a env μ).bind fun p => match truD p.2 p.1 with
  | some b => .ok (b, p.2)
  | none => .stuck := rfl
end Zd

set_option Elab.async false
set_option linter.all false
set_option maxRecDepth 100000
set_option maxHeartbeats 4000000
/-! By value, further: extend, sorted, list(range), starred items. -/
namespace Zd
open PySem PySem.Spec PyProof.Rows L2
/-! ### extend -/
def mExtend : FM
  | ds, [.list es] => if ds.length + es.length ≤ sizeLine then some (.none, ds ++ es) else none
  | _, _ => none
theorem mo_extend {K : PySem.W.Frag} : MOk K rExtend mExtend := fun H I a vs ws ds ps c es Q ha si lv lw e q => by
  unfold mExtend at e
  split at e
  · split at e
    · rename_i hz
      cases e
      obtain ⟨v, rfl, l⟩ := LyAll.one lw
      cases l with
      | lst h k =>
        exact ⟨a, _, vs, _, rfl, rfl, ha, si _ _ h, by rw [LyAll.length lv, LyAll.length k]; exact hz, q _ _ (LyAll.append lv k) .non⟩
    · cases e
  · cases e
section
variable {X : Cx} {W : Wish} {o a b e : Expr} {es : List Expr} {eo ea eb : EvE} {er : EvA} {apos cpos pos p : Pos}
theorem se_extend (ho : SE X W o eo) (ha : SE X W a ea) (hbase : attributeBase o "extend" X.env (eval o X.env) = eval o X.env := by rfl)
    (hfew : ((backTo cpos (starEach [a] X.env)).all (fun x => !x.1) && (backToKw cpos (keywordEach [] X.env)).all (fun x => x.1.isSome) && decide (([a] : List Expr).length + ([] : List Keyword).length + (if ([] : List Keyword).isEmpty then 0 else 1) < 30)) = true := by rfl)
    (hline : (apos.endLine == cpos.line) = true := by rfl) (hs : starEach [a] X.env = (false, eval a X.env) :: starEach [] X.env := by rfl) (hp : (backTo cpos (starEach [] X.env)).any (·.1) = false := by rfl) :
    SE X W (.Call (.Attribute o "extend" apos) [a] [] cpos) (eMeth mExtend eo (aCons ea aNil)) := se_meth PySem.F.slot_list_extend PySem.F.type_list_extend (fun pins s σ H x vs v us Q I rx rv h => mt_extend pins s σ H x vs v us Q I rx rv h) mo_extend ho (sa_cons ha sa_nil hs) hbase hfew hline hs hp
end
/-! ### sorted -/
def ins (i : Int) : List Int → List Int
  | [] => [i]
  | j :: r => if i ≤ j then i :: j :: r else j :: ins i r
def isort : List Int → List Int
  | [] => []
  | i :: r => ins i (isort r)
theorem ins_perm (i : Int) : ∀ l : List Int, (ins i l).Perm (i :: l)
  | [] => .refl _
  | j :: r => by
    unfold ins
    split
    · exact .refl _
    · exact ((ins_perm i r).cons j).trans (.swap i j r)
theorem isort_perm : ∀ l : List Int, (isort l).Perm l
  | [] => .refl _
  | i :: r => (ins_perm i _).trans ((isort_perm r).cons i)
theorem ins_sorted (i : Int) : ∀ l : List Int, l.Pairwise (· ≤ ·) → (ins i l).Pairwise (· ≤ ·)
  | [], _ => by simp [ins]
  | j :: r, h => by
    have h' := List.pairwise_cons.mp h
    unfold ins
    split
    · rename_i q
      refine List.pairwise_cons.mpr ⟨fun x hx => ?_, h⟩
      rcases List.mem_cons.mp hx with rfl | hx
      · exact q
      · exact Int.le_trans q (h'.1 x hx)
    · rename_i q
      refine List.pairwise_cons.mpr ⟨fun x hx => ?_, ins_sorted i r h'.2⟩
      rcases List.mem_cons.mp ((ins_perm i r).mem_iff.mp hx) with rfl | hx
      · omega
      · exact h'.1 x hx
theorem isort_sorted : ∀ l : List Int, (isort l).Pairwise (· ≤ ·)
  | [] => .nil
  | i :: r => ins_sorted i _ (isort_sorted r)
theorem sorted_unique : ∀ {l m : List Int}, l.Perm m → l.Pairwise (· ≤ ·) → m.Pairwise (· ≤ ·) → l = m
  | [], m, p, _, _ => by rw [List.nil_perm.mp p]
  | i :: r, [], p, _, _ => by simp at p
  | i :: r, j :: t, p, h1, h2 => by
    have a1 := List.pairwise_cons.mp h1
    have a2 := List.pairwise_cons.mp h2
    have e : i = j := by
      have m1 : i ∈ j :: t := p.mem_iff.mp (by simp)
      have m2 : j ∈ i :: r := p.mem_iff.mpr (by simp)
      rcases List.mem_cons.mp m1 with q | q
      · exact q
      · rcases List.mem_cons.mp m2 with q2 | q2
        · exact q2.symm
        · have := a2.1 i q
          have := a1.1 j q2
          omega
    subst e
    rw [sorted_unique ((List.perm_cons i).mp p) a1.2 a2.2]
def gSorted : GN
  | [.list ds] => (intsOf ds).map fun ns => (isort ns).map .int
  | _ => none
@[simp] theorem v_sorted (ns : List Int) : gSorted [.list (ns.map .int)] = some ((isort ns).map .int) := by simp [gSorted]
theorem rn_sorted {K : PySem.W.Frag} : RnNew K (rSortedI K) gSorted := fun H ad xs μ vs ps c Q w m e q => by
  unfold gSorted at e
  split at e
  · simp only [Option.map_eq_some_iff] at e
    obtain ⟨ns, e1, rfl⟩ := e
    obtain ⟨v, rfl, m1⟩ := m.one
    obtain ⟨a, ws, rfl, h, l⟩ := m1.list
    have ew := intsOf_ly e1 l
    subst ew
    refine ⟨a, ns, rfl, SqL.of h, fun ns' p hp hs hn => ?_⟩
    have e2 : ns' = isort ns := sorted_unique (hp.trans (isort_perm ns).symm) hs (isort_sorted ns)
    rw [e2]
    exact q p _ hn (LyAll.map_int _)
  · cases e
/-! ### list(range(n)) -/
def eListR (ea : EvE) : EvF := fun env μ => (ea env μ).bind fun p => match asI p.1 with
  | some n => if 0 ≤ n ∧ n ≤ 16777216 then .ok ((List.range n.toNat).map fun (k : Nat) => .int (k : Int), p.2) else .stuck
  | none => .stuck
section
variable {X : Cx} {W : Wish} {a e : Expr} {es : List Expr} {ea : EvE} {er : EvA} {pos p p2 pos2 : Pos}
theorem LyAll.map_fun {K : PySem.W.Frag} {H : Hp} {α : Type} (f : α → Int) : ∀ l : List α, LyAll K H (l.map fun x => V.int (f x)) (l.map fun x => PyData.int (f x))
  | [] => .nil
  | x :: r => .cons (.int _) (LyAll.map_fun f r)
theorem sf_listR (hc : X.calm = true) (hg : Gl X "list") (hm : X.mg "list" = none) (hg2 : Gl X "range") (hm2 : X.mg "range" = none) (ha : SE X W a ea)
    (na : starEach [a] X.env = (false, eval a X.env) :: starEach [] X.env := by rfl)
    (nb : starEach [.Call (.Name "range" p2) [a] [] pos2] X.env = (false, eval (.Call (.Name "range" p2) [a] [] pos2) X.env) :: starEach [] X.env := by rfl) :
    SF X W (.Call (.Name "list" p) [.Call (.Name "range" p2) [a] [] pos2] [] pos) (eListR ea) :=
  pe_imp (pe_listRg hc hg hm (prg_1 hg2 hm2 ha na) nb) fun σ H Q h => by
    obtain ⟨ad, xs, env, μ, sr, w, p⟩ := h
    refine ⟨ad, xs, env, μ, sr, w, p.bind.mono fun d H1 ad1 μ1 e1 w1 q v r => ?_⟩
    dsimp only at q
    cases hi : asI d with
    | none => rw [hi] at q; exact q.elim
    | some n =>
      rw [hi] at q
      dsimp only at q
      by_cases hz : 0 ≤ n ∧ n ≤ 16777216
      · rw [if_pos hz] at q
        refine ⟨n, asI_rep hi r, RgOk.of_le (Int.le_refl _) hz.2 (by decide) hz.1, fun q' hq => ?_⟩
        refine q.ok w1 q' _ hq ?_
        unfold rgV
        rw [Int.sub_zero]
        have e : ((List.range n.toNat).map fun i => V.int (0 + (i : Nat))) = (List.range n.toNat).map fun (i : Nat) => V.int (i : Int) := by
          apply List.map_congr_left
          intro i _
          rw [Int.zero_add]
        rw [e]
        exact LyAll.map_fun (fun (i : Nat) => (i : Int)) _
      · rw [if_neg hz] at q
        exact q.elim
/-! ### starred items -/
def aStar (ev : EvE) (er : EvA) : EvA := fun env μ => (ev env μ).bind fun p => match deref p.2 p.1 with
  | some (.list ds) => (er env p.2).bind fun q => .ok (ds.map .pd ++ q.1, q.2)
  | some (.tuple ds) => (er env p.2).bind fun q => .ok (ds.map .pd ++ q.1, q.2)
  | _ => .stuck
theorem repAll_pd2 {K : PySem.W.Frag} {H : Hp} {ad xs : List Addr} : ∀ {vs : List V} {ds : List PyData}, LyAll K (Im H ad xs) vs ds → RepAll K H ad xs (ds.map .pd) vs
  | _, _, .nil => .nil
  | _, _, .cons h t => .cons h (repAll_pd2 t)
theorem repAll_app {K : PySem.W.Frag} {H : Hp} {ad xs : List Addr} : ∀ {vs ws : List V} {ds es : List D}, RepAll K H ad xs ds vs → RepAll K H ad xs es ws → RepAll K H ad xs (ds ++ es) (vs ++ ws)
  | _, _, _, _, .nil, h => h
  | _, _, _, _, .cons p q, h => .cons p (repAll_app q h)
theorem sa_star (he : SE X W e ea) (hr : SA X W es er) (hs : starEach (.Starred e p :: es) X.env = (true, eval e X.env) :: starEach es X.env := by rfl) : SA X W (.Starred e p :: es) (aStar ea er) :=
  pa_imp (StX.pa_star he hr hs) fun σ H Q h => by
    obtain ⟨ad, xs, env, μ, sr, w, p⟩ := h
    refine ⟨ad, xs, env, μ, sr, w, p.bind.mono fun d H1 ad1 μ1 e1 w1 q v r => ?_⟩
    dsimp only at q
    have fin : ∀ (a : Addr) (vs : List V) (ds : List PyData), LyAll X.K (Im H1 ad1 xs) vs ds → Post X.K xs W H1 ad1 ((er env μ1).bind fun q => .ok (ds.map .pd ++ q.1, q.2)) (fun ds' H' ad' _ => ∀ vs', RepAll X.K H' ad' xs ds' vs' → Q vs' H') →
        tDA X.K W er σ H1 fun ys H2 => Q (vs ++ ys) H2 := fun a vs ds l z =>
      ⟨ad1, xs, env, μ1, sr.ext e1, w1, z.bind.mono fun ds' H2 ad2 μ2 e2 w2 q2 vs' r' => q2.ok w2 _ (repAll_app (repAll_pd2 (LyAll.grow e2.same l)) r')⟩
    cases hd : deref μ1 d with
    | none => rw [hd] at q; exact q.elim
    | some pd =>
      rw [hd] at q
      have m := w1.mo r hd
      cases pd with
      | list ds =>
        obtain ⟨a, vs, rfl, h1, h2⟩ := m.list
        exact ⟨a, vs, rfl, .inr (SqL.of h1), fin a vs ds h2 q⟩
      | tuple ds =>
        obtain ⟨a, vs, rfl, h1, h2⟩ := m.tuple
        exact ⟨a, vs, rfl, .inl h1, fin a vs ds h2 q⟩
      | _ => exact q.elim
end
/-! ### the place of an item -/
def eIdx (eo ea : EvE) : EvE := fun env μ => (eo env μ).bind fun p => match deref p.2 p.1 with
  | some (.list _) => (ea env p.2).bind fun q => match deref q.2 p.1, q.1 with
    | some (.list ds), .pd x => if flatD x = true ∧ ds.all flatD = true then match idxF x ds with
      | some j => .ok (.pd (.int ((j : Nat) : Int)), q.2)
      | none => .stuck
      else .stuck
    | _, _ => .stuck
  | _ => .stuck
section
variable {X : Cx} {W : Wish} {o a : Expr} {eo ea : EvE} {apos cpos : Pos}
theorem idx_core {σ : L2.St} {H : Hp} {Q : VK} (h : tD X.K W (eIdx eo ea) σ H Q) : tBM X.K "list" (rIndex X.K) (tD X.K W eo) (tDA X.K W (aCons ea aNil)) σ H Q := by
  obtain ⟨ad, xs, env, μ, sr, w, p⟩ := h
  refine ⟨ad, xs, env, μ, sr, w, p.bind.mono fun d H1 ad1 μ1 e1 w1 q v r => ?_⟩
  dsimp only at q
  cases hd : deref μ1 d with
  | none => rw [hd] at q; exact q.elim
  | some pd =>
    rw [hd] at q
    cases pd with
    | list ds0 =>
      dsimp only at q
      obtain ⟨a0, vs0, rfl, k1, _⟩ := (w1.mo r hd).list
      refine ⟨.inl ⟨rfl, vs0, SqL.of k1⟩, ad1, xs, env, μ1, sr.ext e1, w1, ?_⟩
      have q' := q.bind
      unfold aCons
      have go : Post X.K xs W H1 ad1 (ea env μ1) fun x H2 ad2 μ2 => Post X.K xs W H2 ad2 ((aNil env μ2).bind fun q => Out.ok (x :: q.1, q.2)) fun ds' H' ad' _ => ∀ ws, RepAll X.K H' ad' xs ds' ws → rIndex X.K (.ref a0) ws H' Q := by
        refine q'.mono fun x H2 ad2 μ2 e2 w2 q2 => ?_
        intro H3 ad3 e3 w3 ws rs
        dsimp only at q2 w3 rs
        cases rs with
        | cons rx rn =>
          cases rn
          cases hd2 : deref μ2 d with
          | none => rw [hd2] at q2; exact q2.elim
          | some pd2 =>
            cases pd2 with
            | list ds =>
              cases x with
              | pd x =>
                rw [hd2] at q2
                dsimp only at q2
                by_cases hz : flatD x = true ∧ ds.all flatD = true
                · rw [if_pos hz] at q2
                  cases hj : idxF x ds with
                  | none => rw [hj] at q2; exact q2.elim
                  | some j =>
                    rw [hj] at q2
                    obtain ⟨a1, vs, ea1, k2, k3⟩ := (w3.mo ((r.ext e2).ext e3) hd2).list
                    cases ea1
                    obtain ⟨z, m1, m2, m3⟩ := idx_ly rx hz.1 k3 hz.2 hj
                    obtain ⟨f1, _⟩ := ly_in rx hz.1 k3 hz.2
                    exact ⟨a0, vs, _, j, z, rfl, rfl, SqL.of k2, ly_flat rx hz.1, f1, m1, m2, m3, Post.ok_at q2 e3 w3 _ (.int _)⟩
                · rw [if_neg hz] at q2
                  exact q2.elim
              | _ => rw [hd2] at q2; exact q2.elim
            | _ => rw [hd2] at q2; exact q2.elim
      revert go
      cases ea env μ1 with
      | ok p => exact fun go H2 ad2 e2 w2 => go H2 ad2 e2 w2 H2 ad2 Ext.refl w2
      | exc c fs μ' => exact fun go => go
      | stuck => exact fun go => go
    | _ => exact q.elim
theorem se_idx (ho : SE X W o eo) (ha : SE X W a ea) (hbase : attributeBase o "index" X.env (eval o X.env) = eval o X.env := by rfl)
    (hfew : ((backTo cpos (starEach [a] X.env)).all (fun x => !x.1) && (backToKw cpos (keywordEach [] X.env)).all (fun x => x.1.isSome) && decide (([a] : List Expr).length + ([] : List Keyword).length + (if ([] : List Keyword).isEmpty then 0 else 1) < 30)) = true := by rfl)
    (hline : (apos.endLine == cpos.line) = true := by rfl) (hs : starEach [a] X.env = (false, eval a X.env) :: starEach [] X.env := by rfl) (hp : (backTo cpos (starEach [] X.env)).any (·.1) = false := by rfl) :
    SE X W (.Call (.Attribute o "index" apos) [a] [] cpos) (eIdx eo ea) := pe_imp (pe_bm PySem.F.plainAttrs_list PySem.F.slot_list_index PySem.F.type_list_index mt_index ho (sa_cons ha sa_nil hs) hbase hfew hline hs hp) fun _ _ _ h => idx_core h
end
@[simp] theorem v_idx (eo ea : EvE) (env : Env) (μ : Store) : eIdx eo ea env μ = (eo env μ).bind fun p => match deref p.2 p.1 with
  | some (.list _) => (ea env p.2).bind fun q => match deref q.2 p.1, q.1 with
    | some (.list ds), .pd x => if flatD x = true ∧ ds.all flatD = true then match idxF x ds with
      | some j => .ok (.pd (.int ((j : Nat) : Int)), q.2)
      | none => .stuck
      else .stuck
    | _, _ => .stuck
  | _ => .stuck := rfl
/-- nothing is told of an expression -/
def eStuckE : EvE := fun _ _ => .stuck
theorem se_stuckE {X : Cx} {W : Wish} {e : Expr} : SE X W e eStuckE := ⟨fun pins s σ H Q I h => by
  obtain ⟨ad, xs, env, μ, sr, w, p⟩ := h
  exact (show False from p).elim⟩
@[simp] theorem v_extend (ds es : List PyData) : mExtend ds [.list es] = if ds.length + es.length ≤ sizeLine then some (.none, ds ++ es) else none := rfl
@[simp] theorem v_listR (a : EvE) (env : Env) (μ : Store) : eListR a env μ = (a env μ).bind fun p => match asI p.1 with
  | some n => if 0 ≤ n ∧ n ≤ 16777216 then .ok ((List.range n.toNat).map fun (k : Nat) => .int (k : Int), p.2) else .stuck
  | none => .stuck := rfl
@[simp] theorem v_star (ev : EvE) (er : EvA) (env : Env) (μ : Store) : aStar ev er env μ = (ev env μ).bind fun p => match deref p.2 p.1 with
  | some (.list ds) => (er env p.2).bind fun q => .ok (ds.map .pd ++ q.1, q.2)
  | some (.tuple ds) => (er env p.2).bind fun q => .ok (ds.map .pd ++ q.1, q.2)
  | _ => .stuck := rfl
end Zd

set_option Elab.async false
set_option linter.all false
set_option maxRecDepth 100000
set_option maxHeartbeats 4000000
/-! By value: defs that may raise. -/
namespace Zd
open PySem PySem.Spec PyProof.Rows L2
abbrev SqX := List V → Hp → VK → XK → Prop
structure FKX (P : Program) (w : World) (K : PySem.W.Frag) (mg : Str → Option Value) (base : Heap) (k : Nat) (f : Addr) (fd : FuncData) (ps : List Str) (sp : SqX) : Prop where
  len : ∀ vs H Q E, sp vs H Q E → vs.length = ps.length
  run : ∀ (A : Around) (outer : List PySem.Env) (s : Shared) (H : Hp) (args : Args) (us : List Value) (vs : List V) (Q : VK) (E : XK), Rm k A → Env0 P w K mg base A outer s H → BindsTo s fd args (ps.zip us) → Vals vs us → sp vs H Q E →
    codeAny (model P w) A (.call (.ref f) args) (CR (L2.CX P w) outer P w H s Q E) s
section
variable {P : Program} {w : World} {K : PySem.W.Frag} {mg : Str → Option Value} {base : Heap}
theorem FKX.mono {j k : Nat} {f : Addr} {fd : FuncData} {ps : List Str} {sp : SqX} (F : FKX P w K mg base j f fd ps sp) (h : j ≤ k) : FKX P w K mg base k f fd ps sp :=
  ⟨F.len, fun A outer s H args us vs Q E r => F.run A outer s H args us vs Q E (r.mono h)⟩
theorem fkx_of {x qual : Str} {st : Stmt} {f : Addr} {fd : FuncData} {N ps : List Str} {k : Nat} {sp : SqX} (F : Fun K x qual st f fd) (S : FnScope N ps (defScope st)) (len : ∀ vs H Q E, sp vs H Q E → vs.length = ps.length)
    (hb : ∀ (cdv : Value) (A : Around) (outer : List PySem.Env) (s : Shared) (H : Hp) (vs : List V) (Q : VK) (E : XK), Rm k (A.deeper (envOfC qual (defScope st) s.heap.objs.size f cdv)) → sp vs H Q E →
      ∃ t, PSs (cxOf (L2.CX P w) P w K mg base N qual (defScope st) f cdv A outer s H E) (defBody st) t ∧ t { nx := fun _ H' => Q .non H', rt := Q } (start N vs) H) : FKX P w K mg base (k + 1) f fd ps sp := by
  obtain ⟨c1, c2, c3, c4, c5, c6, cdv, c8, c9, rfl, lk, hcd⟩ := F.ex
  refine ⟨len, fun A outer s H args us vs Q E rr e0 bd rv hs => ?_⟩
  have nvs := len _ _ _ _ hs
  have keep : ∀ b o, base.get? b = some o → s.heap.get? b = some o := fun b o e => (e0.bs b o e).1
  have kin : K.In s.heap := e0.mod.kin.keeps keep
  have nol : s.heap.NoLimit := e0.mod.nolimit.keeps keep
  have kinds : ∀ y ∈ ps.zip us, (defScope st).names.lookup y.1 = some .local ∨ ((defScope st).names.lookup y.1 = some .cell ∧ ((cellsFrom (s.heap.objs.size + 1) (defScope st).names []).lookup y.1).isSome = true) := by
    rintro ⟨n, v⟩ hy
    cases S.par n (List.of_mem_zip hy).1 with
    | inl q => exact .inl q
    | inr q => exact .inr ⟨q, PySem.W.cellsFrom_some _ _ _ (.inl q)⟩
  apply codeAny_call_function rr.rm.depth (kin _ _ lk) rfl S.co S.gen rfl (PySem.W.codeRec_of kin hcd)
  apply bd
  apply wpAny_newFunctionEnv_cells S.kind kinds
  intro env henv s1 ic
  subst henv
  refine ⟨nol.keeps ic.toInCall.keep, codeAny_func ?_⟩
  obtain ⟨t, ht, hq⟩ := hb cdv A outer s H vs Q E (rr.deep _) hs
  have I0 := inv_start (CX := L2.CX P w) (E := E) (P := P) (w := w) (f := f) (cd := cdv) (qual := qual) S rr.rm.hd e0 nvs rv ic
  refine wpAny_mono (ht.run [] s1 (start N vs) H _ I0 hq) (fun fl s2 h2 => ?_) (fun e s2 h2 => h2)
  cases fl with
  | next =>
    obtain ⟨τ, H', J, q⟩ := h2
    exact ⟨.non, H', J.os, J.bare, J.base, J.hok, rfl, q⟩
  | ret u =>
    obtain ⟨v, τ, H', J, rv', q⟩ := h2
    exact ⟨v, H', J.os, J.bare, J.base, J.hok, rv', q⟩
  | brk => exact h2.elim fun _ h => h.elim fun _ h => h.2.elim
  | cont => exact h2.elim fun _ h => h.elim fun _ h => h.2.elim
end
structure CalX (P : Program) (w : World) (K : PySem.W.Frag) (mg : Str → Option Value) (base : Heap) (k : Nat) (x : Str) (sp : SqX) : Prop where
  ex : ∃ (f : Addr) (fd : FuncData) (ps : List Str), FKX P w K mg base k f fd ps sp ∧ mg x = some (.ref f) ∧ PySem.W.keepIn K (.ref f) = true ∧ Binds K fd ps []
theorem CalX.mono {P : Program} {w : World} {K : PySem.W.Frag} {mg : Str → Option Value} {base : Heap} {j k : Nat} {x : Str} {sp : SqX} (c : CalX P w K mg base j x sp) (h : j ≤ k) : CalX P w K mg base k x sp := by
  obtain ⟨f, fd, ps, F, r⟩ := c.ex
  exact ⟨f, fd, ps, F.mono h, r⟩
section
variable {X : Cx} {k : Nat} {x : Str} {sp : SqX} {p pos : Pos} {e : Expr} {es : List Expr} {t : TA} {W : WX}
theorem run_fkx {pins : List (Addr × Obj)} {σ : L2.St} {H : Hp} {s : Shared} {Q : VK} {us : List Value} {vs : List V} {f : Addr} {fd : FuncData} {ps : List Str} (F : FKX X.prog X.w X.K X.mg X.base k f fd ps sp) (hr : Rm k X.A) (hb : Binds X.K fd ps []) (tk : Takes X W)
    (I : Inv X pins σ H s) (r : Vals vs us) (h : sp vs H Q (WE W σ)) : wpAny (model X.prog X.w) X.A (call (.ref f) us) (EP X pins σ Q) X.xe s := by
  have nus : (us ++ []).length = ps.length := by rw [List.append_nil, ← r.length]; exact F.len _ _ _ _ h
  have bd := hb s us I.kIn nus
  rw [List.append_nil] at bd
  refine wpAny_call (codeAny_mono (F.run X.A X.stack s H ⟨us, []⟩ us vs Q (WE W σ) hr I.env0 bd r h) fun rs s2 h2 => ?_)
  cases rs with
  | error e => exact passAt tk σ pins H s e s2 I h2
  | ok fl =>
    cases fl with
    | ret u => exact I.after h2
    | next => exact False.elim h2
    | brk => exact False.elim h2
    | cont => exact False.elim h2
def tCallX (sp : SqX) (W : WX) (t : TA) : TE := fun σ H Q => t σ H fun vs H1 => sp vs H1 Q (WE W σ)
theorem pe_callX (c : CalX X.prog X.w X.K X.mg X.base k x sp) (hr : Rm k X.A) (tk : Takes X W) (hg : Gl X x) (ha : PA X (e :: es) t) (hd : (x == ("__debug__" : Str)) = false := by decide)
    (he : starEach (e :: es) X.env = (false, eval e X.env) :: starEach es X.env := by rfl) (hpl : (backTo pos (starEach es X.env)).any (·.1) = false := by rfl) : PE X (.Call (.Name x p) (e :: es) [] pos) (tCallX sp W t) := by
  obtain ⟨f, fd, ps, F, hm, hk, hb⟩ := c.ex
  refine ⟨fun pins s σ H Q I h => wpAny_Call_Name_kw (ld_glob I hg hm ?_ hd)⟩
  exact PySem.W.callWith_K (h₀ := X.base) I.ok.mod.kin hk (thn (ha.run pos pins s σ H _ I h) fun us s1 ⟨vs, H1, I1, r, q⟩ => ⟨I1.kIn, run_fkx F hr hb tk I1 r q⟩) he hpl
/-- X(), X an own exception class without own __init__ -/
theorem pmk_own0 {C : Addr} {bmB : List Value} {B newId initId : String} (F : ExcBaseFacts B newId initId bmB) (q : PySem.W.excIn X.K C bmB newId = true) (gC : X.mg x = some (.ref C))
    (kC : PySem.W.keepIn X.K (.ref C) = true) (r : Raises X (.ref C)) (hg : Gl X x) (hdb : (x == ("__debug__" : Str)) = false := by decide) :
    PMk X (.Call (.Name x p) [] [] pos) (fun _ H Q => Q (.ref C) none H) := by
  intro pins s σ H Q I h
  refine wpAny_Call_Name_kw (ld_glob I hg gC ?_ hdb)
  refine PySem.W.callWith_K0 I.kIn kC ?_
  obtain ⟨bm, N, nm, qn, bs, hdct, sn, sub, ab, col, dd, k0, k1, k2, k3, k5, mN, hC, hN, hni, T⟩ := exc_obj I.kIn q
  refine wpAny_call_exc_subT F T hC hN hni (fun h' e hm => ?_) (Nat.zero_le _)
  exact mk_of I hm r h (I.hok.gone hm.new)
end
/-! ### by value -/
/-- what is wished of an exception: by its class's name -/
def wxOf (K : PySem.W.Frag) (mg : Str → Option Value) (W : Wish) : WX := fun cls d σ H => ∃ c C ad μ, mg c = some (.ref C) ∧ cls = .ref C ∧ d = none ∧ W c [] H ad μ
/-- exceptions that are wished for may leave -/
abbrev TkW (X : Cx) (W : Wish) : Prop := Takes X (wxOf X.K X.mg W)
def sRaise (c : Str) : EvS := fun _ μ => .exc c [] μ
/-- what the head says of an own exception class -/
structure ExCls (K : PySem.W.Frag) (mg : Str → Option Value) (c : Str) (C : Addr) : Prop where
  at_ : mg c = some (.ref C)
  keep : PySem.W.keepIn K (.ref C) = true
  ex : ∃ (bm : List Value) (B newId initId : String), ExcBaseFacts B newId initId bm ∧ PySem.W.excIn K C bm newId = true
  sub : PySem.W.subIn K (.ref C) (.type "BaseException") = some true
  ty : PySem.W.typeIn K (.ref C) = some (.type "type")
theorem ss_raise {X : Cx} {W : Wish} {c : Str} {C : Addr} {p pos pos' : Pos} (E : ExCls X.K X.mg c C) (tk : TkW X W) (hc : X.calm = true) (hg : Gl X c) (hdb : (c == ("__debug__" : Str)) = false := by decide) : SS X W (.Raise (some (.Call (.Name c p) [] [] pos)) none pos') (sRaise c) := by
  obtain ⟨bm, B, newId, initId, F, q⟩ := E.ex
  refine ps_imp (ps_raise hc tk (pmk_own0 F q E.at_ E.keep (raises_own E.sub E.ty) hg hdb)) fun D σ H h => ?_
  obtain ⟨ad, xs, env, μ, sr, w, p⟩ := h
  exact ⟨c, C, ad, μ, E.at_, rfl, rfl, p H ad Ext.refl w⟩
abbrev FnX := List PyData → Out PyData
def fnX (n m : Nat) (ev : EvS) : FnX := fun ps => if ps.length = n then
  match ev (startE m (ps.map .pd)) [] with
  | .ok ((.rt d, _), μ) => match frz μ d with
    | some r => .ok r
    | none => .stuck
  | .ok ((.nx, _), _) => .ok .none
  | .exc c [] _ => .exc c [] []
  | _ => .stuck
  else .stuck
def XEnd (K : PySem.W.Frag) (mg : Str → Option Value) (xs : List Addr) (H : Hp) (Q : VK) (E : XK) (o : Out PyData) : Prop :=
  match o with
  | .ok r => ∀ H' v, Same (Im H [] xs) (Im H' [] xs) → (∀ a, a ∈ xs → H' a = H a) → Ly K (Im H' [] xs) v r → Q v H'
  | .exc c _ _ => ∀ H' C, mg c = some (.ref C) → Same (Im H [] xs) (Im H' [] xs) → (∀ a, a ∈ xs → H' a = H a) → E (.ref C) none H'
  | .stuck => False
def spX (K : PySem.W.Frag) (mg : Str → Option Value) (n : Nat) (F : FnX) : SqX := fun vs H Q E => ∃ xs ps, vs.length = n ∧ xs.Nodup ∧ (∀ a, a ∈ xs → ∃ o, H a = some o) ∧ LyAll K (Im H [] xs) vs ps ∧ XEnd K mg xs H Q E (F ps)
section
variable {P : Program} {w : World} {K : PySem.W.Frag} {mg : Str → Option Value} {base : Heap}
theorem fk_X {x qual : Str} {st : Stmt} {f : Addr} {fd : FuncData} {N ps : List Str} {k : Nat} {ev : EvS} (F : Fun K x qual st f fd) (S : FnScope N ps (defScope st))
    (hb : ∀ (W : Wish) (cdv : Value) (A : Around) (outer : List PySem.Env) (s : Shared) (H : Hp) (E : XK), Rm k (A.deeper (envOfC qual (defScope st) s.heap.objs.size f cdv)) → TkW (cxOf (L2.CX P w) P w K mg base N qual (defScope st) f cdv A outer s H E) W → SSs (cxOf (L2.CX P w) P w K mg base N qual (defScope st) f cdv A outer s H E) W (defBody st) ev) :
    FKX P w K mg base (k + 1) f fd ps (spX K mg ps.length (fnX ps.length N.length ev)) := by
  refine fkx_of F S (fun vs H Q E h => ?_) fun cdv A outer s H vs Q E hr h => ?_
  · obtain ⟨_, _, e, _⟩ := h
    exact e
  · obtain ⟨xs, qs, hl, nd, th, ly, q⟩ := h
    have wk : WOk K H [] xs [] := ⟨rfl, by simpa using nd, fun a ha => th a (by simpa using ha), fun l a c e => by simp at e⟩
    have tk0 : Takes (cxOf (L2.CX P w) P w K mg base N qual (defScope st) f cdv A outer s H E) (fun cls d _ H => E cls d H) := takes_of rfl rfl rfl rfl
    refine ⟨_, hb (fun c fs H' _ _ => ∀ C, mg c = some (.ref C) → E (.ref C) none H') cdv A outer s H E hr (tk0.imp fun cls d σ H' ⟨c, C, ad, μ, h1, h2, h3, h4⟩ => ?_), ?_⟩
    · subst h2 h3
      exact h4 C h1
    refine ⟨[], xs, startE N.length (qs.map .pd), [], srep_start (repAll_pd ly) (by rw [hl]; exact scope_le S), wk, ?_⟩
    unfold fnX at q
    by_cases hq : qs.length = ps.length
    · rw [if_pos hq] at q
      revert q
      cases ev (startE N.length (qs.map .pd)) [] with
      | ok p =>
        obtain ⟨⟨fl, env⟩, μ'⟩ := p
        intro q H' ad' e w' σ' sr'
        have sm : Same (Im H [] xs) (Im H' [] xs) := fun a o z => Im_nil_le _ _ (e.same a o z)
        cases fl with
        | nx => exact q H' _ sm e.keepx .non
        | rt d =>
          intro v rv
          dsimp only at q
          cases hf : frz μ' d with
          | none => rw [hf] at q; exact (show False from q).elim
          | some r' =>
            rw [hf] at q
            exact q H' v sm e.keepx (frz_ly w' hf rv)
        | bk => exact (show False from q).elim
        | ct => exact (show False from q).elim
      | exc c fs μ' =>
        intro q H' ad' e w' C hC
        have sm : Same (Im H [] xs) (Im H' [] xs) := fun a o z => Im_nil_le _ _ (e.same a o z)
        cases fs with
        | nil => exact q H' C hC sm e.keepx
        | cons y r => exact (show False from q).elim
      | stuck => exact fun q => q
    · rw [if_neg hq] at q
      exact (show False from q).elim
end
/-- a call that may raise -/
def eCallX (F : FnX) (ea : EvA) : EvE := fun env μ => (ea env μ).bind fun p => match derefs p.2 p.1 with
  | some ps => match F ps with
    | .ok r => if (p.1.all isVal || noL r) = true then .ok (.pd r, p.2) else .stuck
    | .exc c _ _ => .exc c [] p.2
    | .stuck => .stuck
  | none => .stuck
section
variable {K : PySem.W.Frag} {mg : Str → Option Value} {H : Hp}
theorem callX_core {σ : L2.St} {F : FnX} {er : EvA} {n : Nat} {Q : VK} {W : Wish} (hn : ∀ ps, F ps = .stuck ∨ ps.length = n) (h : tD K W (eCallX F er) σ H Q) : tCallX (spX K mg n F) (wxOf K mg W) (tDA K W er) σ H Q := by
  obtain ⟨ad, xs, env, μ, sr, w, p⟩ := h
  refine ⟨ad, xs, env, μ, sr, w, p.bind.mono fun ds H1 ad1 μ1 e1 w1 q vs r => ?_⟩
  dsimp only at q
  cases hp : derefs μ1 ds with
  | none => rw [hp] at q; exact q.elim
  | some ps =>
    rw [hp] at q
    dsimp only at q
    have nd := List.nodup_append.mp w1.nd
    obtain ⟨ys, hys⟩ : ∃ ys, ys = ad1.filter (fun a => decide (a ∉ refsOf ad1 ds)) ++ xs := ⟨_, rfl⟩
    have yin : ∀ a, a ∈ ys ↔ (a ∈ ad1 ∧ a ∉ refsOf ad1 ds) ∨ a ∈ xs := fun a => by rw [hys]; simp
    have im1 : Same (Im H1 ad1 xs) (Im H1 [] ys) := fun a o z => by
      obtain ⟨z1, z2, z3⟩ := Im_some z
      exact Im_of (by simp) (fun y => ((yin a).mp y).elim (fun u => z1 u.1) z2) z3
    have rin : ∀ a, a ∈ refsOf ad1 ds → a ∈ ad1 := fun a z => by
      unfold refsOf at z
      obtain ⟨d0, _, g⟩ := List.mem_filterMap.mp z
      split at g
      · exact List.mem_of_getElem? g
      · cases g
    have rny : ∀ a, a ∈ refsOf ad1 ds → a ∉ ys := fun a z y => by
      rcases (yin a).mp y with u | u
      · exact u.2 z
      · exact nd.2.2 a (rin a z) a u rfl
    have ly := args_ly w1 im1 hp r rny
    have back : ∀ H', Same (Im H1 [] ys) (Im H' [] ys) → (∀ a, a ∈ ys → H' a = H1 a) → Ext H1 ad1 xs H' ad1 ∧ WOk K H' ad1 xs μ1 ∧ ∀ a, a ∈ ad1 → H' a = H1 a := fun H' sm kx => by
      have sm2 : Same (Im H1 ad1 xs) (Im H' ad1 xs) := fun a o z => by
        obtain ⟨z1, z2, z3⟩ := Im_some z
        exact Im_of z1 z2 (Im_some (sm a o (im1 a o z))).2.2
      have at_ : ∀ a, a ∈ ad1 → H' a = H1 a := fun a ha => by
        by_cases hr : a ∈ refsOf ad1 ds
        · obtain ⟨o, ho⟩ := w1.there a (.inl ha)
          have := sm a o (Im_of (by simp) (rny a hr) ho)
          rw [ho, (Im_some this).2.2]
        · exact kx a ((yin a).mpr (.inl ⟨ha, hr⟩))
      have ex : Ext H1 ad1 xs H' ad1 := ⟨sm2, ⟨[], by simp⟩, fun a ha => kx a ((yin a).mpr (.inr ha))⟩
      exact ⟨ex, ⟨w1.len, w1.nd, fun a ha => by
          rcases ha with ha | ha
          · rw [at_ a ha]; exact w1.there a (.inl ha)
          · rw [kx a ((yin a).mpr (.inr ha))]; exact w1.there a (.inr ha), fun l a c g1 g2 => (w1.cell l a c g1 g2).grow sm2 ⟨[], by simp⟩ (at_ a (List.mem_of_getElem? g1))⟩, at_⟩
    refine ⟨ys, ps, ?_, ?_, fun a ha => w1.there a (((yin a).mp ha).elim (fun u => .inl u.1) .inr), ly, ?_⟩
    · rw [LyAll.length ly]
      rcases hn ps with z | z
      · rw [z] at q; exact q.elim
      · exact z
    · rw [hys, List.nodup_append]
      exact ⟨nd.1.sublist List.filter_sublist, nd.2.1, fun a ha b hb => nd.2.2 a (List.mem_filter.mp ha).1 b hb⟩
    · cases hF : F ps with
      | stuck => rw [hF] at q; exact q.elim
      | exc c fs μ2 =>
        rw [hF] at q
        intro H' C hC sm kx
        obtain ⟨ex, wk, _⟩ := back H' sm kx
        exact ⟨c, C, ad1, μ1, hC, rfl, rfl, q H' ad1 ex wk⟩
      | ok d =>
        rw [hF] at q
        dsimp only at q
        by_cases hc : (ds.all isVal || noL d) = true
        · rw [if_pos hc] at q
          intro H' v sm kx lv
          obtain ⟨ex, wk, at_⟩ := back H' sm kx
          refine q.ok_at ex wk v ?_
          show Ly K (Im H' ad1 xs) v d
          by_cases hv : ds.all isVal = true
          · have : Same (Im H' [] ys) (Im H' ad1 xs) := fun a o z => by
              obtain ⟨_, z2, z3⟩ := Im_some z
              refine Im_of (fun y => ?_) (fun y => z2 ((yin a).mpr (.inr y))) z3
              by_cases hr : a ∈ refsOf ad1 ds
              · rw [(refsOf_lst w1 hp hr).2] at hv; cases hv
              · exact z2 ((yin a).mpr (.inl ⟨y, hr⟩))
            exact Ly.grow this lv
          · refine Ly.noL (fun a o z no => ?_) lv (by simpa [hv] using hc)
            obtain ⟨_, z2, z3⟩ := Im_some z
            refine Im_of (fun y => ?_) (fun y => z2 ((yin a).mpr (.inr y))) z3
            by_cases hr : a ∈ refsOf ad1 ds
            · obtain ⟨⟨ws, k⟩, _⟩ := refsOf_lst w1 hp hr
              rw [at_ a y, k] at z3
              cases z3
              exact no ws rfl
            · exact z2 ((yin a).mpr (.inl ⟨y, hr⟩))
        · rw [if_neg hc] at q
          exact q.elim
end
structure DefX (P : Program) (w : World) (K : PySem.W.Frag) (mg : Str → Option Value) (base : Heap) (k : Nat) (x : Str) (F : FnX) : Prop where
  ex : ∃ n, CalX P w K mg base k x (spX K mg n F) ∧ ∀ ps, (F ps = .stuck ∨ ps.length = n)
theorem fnX_len {n m : Nat} {ev : EvS} : ∀ ps, fnX n m ev ps = .stuck ∨ ps.length = n := fun ps => by
  unfold fnX
  by_cases h : ps.length = n
  · exact .inr h
  · exact .inl (if_neg h)
section
variable {P : Program} {w : World} {K : PySem.W.Frag} {mg : Str → Option Value} {base : Heap} {x : Str} {st : Stmt} {f : Addr} {fd : FuncData} {N ps : List Str} {k : Nat} {ev : EvS}
theorem defX (F : Fun K x x st f fd) (hm : mg x = some (.ref f)) (b : Binds K fd ps []) (S : FnScope N ps (defScope st))
    (hb : ∀ (W : Wish) (cdv : Value) (A : Around) (outer : List PySem.Env) (s : Shared) (H : Hp) (E : XK), Rm k (A.deeper (envOfC x (defScope st) s.heap.objs.size f cdv)) → TkW (cxOf (L2.CX P w) P w K mg base N x (defScope st) f cdv A outer s H E) W → SSs (cxOf (L2.CX P w) P w K mg base N x (defScope st) f cdv A outer s H E) W (defBody st) ev) :
    DefX P w K mg base (k + 1) x (fnX ps.length N.length ev) := ⟨_, ⟨f, fd, ps, fk_X F S hb, hm, F.kp, b⟩, fnX_len⟩
end
section
variable {X : Cx} {W : Wish} {j k : Nat} {x : Str} {F : FnX} {p pos : Pos} {e : Expr} {es : List Expr} {er : EvA}
theorem se_callX (c : DefX X.prog X.w X.K X.mg X.base j x F) (hr : Rm k X.A) (tk : TkW X W) (ha : SA X W (e :: es) er) (hj : j ≤ k := by decide) (hg : Gl X x := by rfl) (hd : (x == ("__debug__" : Str)) = false := by decide)
    (he : starEach (e :: es) X.env = (false, eval e X.env) :: starEach es X.env := by rfl) (hpl : (backTo pos (starEach es X.env)).any (·.1) = false := by rfl) : SE X W (.Call (.Name x p) (e :: es) [] pos) (eCallX F er) := by
  obtain ⟨n, c, hn⟩ := c.ex
  exact pe_imp (pe_callX (c.mono hj) hr tk hg ha hd he hpl) fun _ _ _ h => callX_core hn h
end
end Zd

set_option Elab.async false
set_option linter.all false
set_option maxRecDepth 100000
set_option maxHeartbeats 4000000
/-! By value: a lambda handed to a def that tries it. -/
namespace Zd
open PySem PySem.Spec PyProof.Rows L2
section
variable {X : Cx} {pins : List (Addr × Obj)} {σ : L2.St} {H : Hp} {s : Shared}
/-- the lambda is made: its code object is new, or found in the table -/
theorem lam_make3 {c P : Addr} {ps : Array Value} {params : Arguments} {body : Expr} {scope : Scope} {pos : Pos} {E : Value → Shared → Prop} {Q : Value → Shared → Prop} (I : Inv X pins σ H s) (TB : LamX.TabB X.base X.mg c P) (hcode : X.env.code = .ref c)
    (hP : H P = some (.tbl ps)) (ht : TriplesOk ps.toList) (ha : ∀ (pos : Pos) (cv : Value), codeAmong pos ps.toList = some cv → ∃ c, cv = .ref c ∧ H c = some (LamX.CodeO c (X.env.qual ++ "<lambda>"))) (hdef : defaultsOf params X.env = ([], [])) (hfree : ∀ y ∈ scope.names, y.2 = .free → ∃ c, X.env.cells.lookup y.1 = some c)
    (h : ∀ (f c' : Addr) (pm ctv : Value) (ps1 : Array Value) (H1 : Hp) (s' : Shared), Inv X pins σ H1 s' → (∀ b o, b ≠ P → H b = some o → H1 b = some o) → H1 P = some (.tbl ps1) → TriplesOk ps1.toList →
      (∀ (pos : Pos) (cv : Value), codeAmong pos ps1.toList = some cv → ∃ c, cv = .ref c ∧ H1 c = some (LamX.CodeO c (X.env.qual ++ "<lambda>")) ∧ (H c = none ∨ ∃ pos', codeAmong pos' ps.toList = some cv)) →
      s'.heap.get? f = some (PySem.W.kla_obj "<lambda>" (X.env.qual ++ "<lambda>") params body scope (cloFrom X.env.cells scope.names []) pm c' ctv) → H1 f = none → f ∉ frs X.stack → H1 c' = some (LamX.CodeO c' (X.env.qual ++ "<lambda>")) → Q (.ref f) s') :
    wpAny (model X.prog X.w) X.A (eval (.Lambda params body scope pos) X.env) Q E s := by
  refine PySem.W.kla_eval hdef ?_
  have bP : s.heap.BuiltinsAt X.mg P := TB.bm.keeps I.bk
  have hP' : s.heap.get? P = some { cls := .none, data := .fields ps } := I.hok P _ hP
  have nofr : ∀ f, s.heap.objs.size ≤ f → f ∉ frs X.stack := fun f hf z => by
    rcases List.mem_cons.mp (I.stkSub _ z) with e | e
    · have h1 := I.lt
      rw [← e] at h1
      exact Nat.lt_irrefl _ (Nat.lt_of_lt_of_le h1 hf)
    · exact I.nofs hf e
  cases hc : codeAmong pos ps.toList with
  | none =>
    refine PySem.W.kla_makeFunction (mg := X.mg) (c := c) (P := P) (ps := ps) (closure_ok hfree) I.ok.glob (I.mod.glob.keeps I.bk) hcode (TB.code.keeps I.bk) hP' ht hc TB.gP bP fun c' ctv h' tk hx hge hlt hrec htb => ?_
    obtain ⟨c2, oc, vs, t, e2, hoc, hd, hv⟩ := hrec
    cases e2
    have hsz : s.heap.objs.size ≤ h'.objs.size := Nat.le_trans hge (Nat.le_of_lt hlt)
    have nC : H c' = none := I.hok.fresh hge
    have I1 := LamX.inv_table (t' := tk) (more := #[rawInt pos.line, rawInt pos.col, .ref c']) (h' := h'.push (PySem.W.kla_obj "<lambda>" (X.env.qual ++ "<lambda>") params body scope (cloFrom X.env.cells scope.names []) ((X.mg "__name__").getD .none) c' ctv)) I hP
      (fun b o hb e => Heap.get?_push_of_some _ (hx b o hb e)) (Heap.get?_push_of_some _ htb) hge ⟨oc, vs, t, Heap.get?_push_of_some _ hoc, hd, hv⟩
    have hE : ∀ b o, b ≠ P → H b = some o → upd (upd H P (.tbl (ps ++ #[rawInt pos.line, rawInt pos.col, .ref c']))) c' (LamX.CodeO c' (X.env.qual ++ "<lambda>")) b = some o := fun b o n e => by
      rw [upd_ne (ne_of_none e nC), upd_ne n]
      exact e
    have eL : (ps ++ #[rawInt pos.line, rawInt pos.col, .ref c']).toList = ps.toList ++ [rawInt pos.line, rawInt pos.col, .ref c'] := by simp
    have nPc : P ≠ c' := ne_of_none hP nC
    refine h h'.objs.size c' ((X.mg "__name__").getD .none) ctv _ _ _ I1 hE (by rw [upd_ne nPc, upd_same]) (by rw [eL]; exact PySem.TriplesOk_snoc _ _ _ _ ht) (fun p' cv hcv => ?_) (Heap.get?_push_size _ rfl) ?_ (nofr _ hsz) upd_same
    · rw [eL] at hcv
      rcases LamX.among_app _ ht hcv with z | z
      · obtain ⟨c0, e1, e2⟩ := ha p' cv z
        have n0 : c0 ≠ P := fun z0 => by
          rw [z0, hP] at e2
          exact LamX.codeO_ne ps (Option.some.inj e2).symm
        exact ⟨c0, e1, hE _ _ n0 e2, .inr ⟨p', z⟩⟩
      · exact ⟨c', z, upd_same, .inl nC⟩
    · have n1 : h'.objs.size ≠ c' := Nat.ne_of_gt hlt
      have n2 : h'.objs.size ≠ P := Nat.ne_of_gt (Nat.lt_of_lt_of_le (Heap.lt_size hP') hsz)
      rw [upd_ne n1, upd_ne n2]
      exact I.hok.fresh hsz
  | some cv =>
    obtain ⟨c', e, hco⟩ := ha pos cv hc
    subst e
    refine PySem.W.kla_makeFunctionHit (mg := X.mg) (c := c) (P := P) (ps := ps) (closure_ok hfree) I.ok.glob (I.mod.glob.keeps I.bk) hcode (TB.code.keeps I.bk) hP' ht hc bP fun ctv h' tk hx hsz => ?_
    have I1 : Inv X pins σ H { s with heap := h'.push (PySem.W.kla_obj "<lambda>" (X.env.qual ++ "<lambda>") params body scope (cloFrom X.env.cells scope.names []) ((X.mg "__name__").getD .none) c' ctv), toks := tk } := I.kept fun b o e => Heap.get?_push_of_some _ (hx b o e)
    exact h h'.objs.size c' ((X.mg "__name__").getD .none) ctv ps H _ I1 (fun _ _ _ e => e) hP ht (fun p' cv hcv => by
      obtain ⟨c0, e1, e2⟩ := ha p' cv hcv
      exact ⟨c0, e1, e2, .inr ⟨p', hcv⟩⟩) (Heap.get?_push_size _ rfl) (I.hok.fresh hsz) (nofr _ hsz) hco
end
section
variable {X : Cx} {pins : List (Addr × Obj)} {σ : L2.St} {H HZ : Hp} {s s1 : Shared}
/-- x(), in the def that got the lambda -/
theorem pe_act3 {CXg : CXT} {Eg : XK} {Ng : List Str} {qg : Str} {sg : Scope} {g f c' : Addr} {cdg pm ctv : Value} {params : Arguments} {body : Expr} {scope : Scope} {k i : Nat} {a : Str} {pn : List (Addr × Obj)} {xe : Value → Shared → Prop} {W : WX} {E : XK} {tb : TE} {p1 p2 : Pos}
    (I : Inv X pins σ H s) (L : LamX.LamS X.env.scope scope) (hf : s.heap.get? f = some (PySem.W.kla_obj "<lambda>" (X.env.qual ++ "<lambda>") params body scope (cloFrom X.env.cells scope.names []) pm c' ctv)) (hfn : H f = none) (hfr : f ∉ frs X.stack)
    (hbind : bindArgs (PySem.W.kla_fn "<lambda>" (X.env.qual ++ "<lambda>") params body scope (cloFrom X.env.cells scope.names []) pm (.ref c') ctv) ⟨[], []⟩ = pure [])
    (tk : Takes ((cxOf CXg X.prog X.w X.K X.mg X.base Ng qg sg g cdg X.A X.stack s H Eg).tr pn xe) W) (hW : ∀ cls d σ' H', E cls d H' → W cls d σ' H') (hr : Rm (k + 1) (X.A.deeper (envOfC qg sg s.heap.objs.size g cdg)))
    (hbody : ∀ (A : Around) (outer : List PySem.Env) (s : Shared) (H : Hp), Rm k (A.deeper (LamX.lamEnv X scope s.heap.objs.size f c')) → PE (LamX.lamCx X A outer s H E scope f c') body tb)
    (hN : Ng[i]? = some a) (hv : Vis sg a) (hd : (a == ("__debug__" : Str)) = false := by decide) (hcd : (a == ("__classdict__" : Str)) = false := by decide) :
    PE ((cxOf CXg X.prog X.w X.K X.mg X.base Ng qg sg g cdg X.A X.stack s H Eg).tr pn xe) (.Call (.Name a p1) [] [] p2)
      (fun σZ HZ Q => σZ[i]? = some (some (.ref f)) ∧ HZ c' = some (LamX.CodeO c' (X.env.qual ++ "<lambda>")) ∧ tb σ HZ Q) := by
  refine ⟨fun pinsZ sZ σZ HZ Q IZ h => ?_⟩
  obtain ⟨hs, hc, ht⟩ := h
  refine wpAny_Call_Name_kw (thn ((pe_var (pos := p1) (i := i) hN hv hd hcd).run pinsZ sZ σZ HZ (fun v H1 => v = .ref f ∧ H1 = HZ) IZ ⟨.ref f, hs, rfl, rfl⟩) fun u s1 ⟨v, H1, I1, r1, q1⟩ => ?_)
  obtain ⟨ev, eH⟩ := q1
  subst ev
  rw [eH] at I1
  obtain rfl : u = Value.ref f := r1
  have of1 : s1.heap.get? f = some (PySem.W.kla_obj "<lambda>" (X.env.qual ++ "<lambda>") params body scope (cloFrom X.env.cells scope.names []) pm c' ctv) := I1.base.keep f _ hf hfn hfr (fun z => nomatch (show f ∈ ([] : List Addr) from z))
  refine PySem.W.callWith_F0 ⟨_, _, _, _, of1⟩ ?_
  have un : Un (frs X.stack) [] H HZ s.heap s1.heap := I1.base
  obtain ⟨⟨oc, vs, t, hoc, hdc, hvc⟩, _, _⟩ := I1.hok c' _ hc
  have rc : codeAny (model X.prog X.w) (X.A.deeper (envOfC qg sg s.heap.objs.size g cdg)) (.call (.ref f) ⟨[], []⟩) (CR (L2.CX X.prog X.w) (envOfC qg sg s.heap.objs.size g cdg :: X.stack) X.prog X.w HZ s1 Q E) s1 := by
    refine PySem.W.kla_callFunE hr.rm.depth of1 rfl L.co L.gen rfl ⟨c', oc, vs, t, rfl, hoc, hdc, hvc⟩ ?_
    rw [hbind]
    refine wpAny_pure (wpAny_newFunctionEnv (fun y hy => (L.own y hy).2) (fun y hy => absurd hy (by simp)) (fun h₁ hns hsb => ⟨I1.nolimit.fresh _ hsb, ?_⟩) L.kind)
    show codeAny _ _ (.expr body (LamX.lamEnv X scope s1.heap.objs.size f c')) _ _
    have kp : ∀ b o, s1.heap.get? b = some o → h₁.get? b = some o := fun b o e => hsb.extBut b o (Nat.ne_of_lt (Heap.lt_size e)) (Heap.get?_push_of_some _ e)
    have J : Inv (LamX.lamCx X (X.A.deeper (envOfC qg sg s.heap.objs.size g cdg)) (envOfC qg sg s.heap.objs.size g cdg :: X.stack) s1 HZ E scope f c') [] σ HZ { s1 with heap := h₁, toks := s1.toks + ([] : List (Str × Value)).length } :=
      LamX.lam_start2 I L I1.env0 hr.rm.hd un hns kp
    refine PySem.W.kla_codeExpr (wpAny_mono ((hbody _ _ s1 HZ (hr.deep _)).run [] _ _ HZ Q J ht) (fun v s' hq => ?_) fun e s' hq => hq)
    obtain ⟨w', H', J', rv, q⟩ := hq
    exact ⟨w', H', J'.os, J'.bare, J'.base, J'.hok, rv, q⟩
  have hx : Passes (L2.CX X.prog X.w) ((cxOf CXg X.prog X.w X.K X.mg X.base Ng qg sg g cdg X.A X.stack s H Eg).tr pn xe) E := passes_call tk hW
  refine wpAny_call (codeAny_mono rc fun r s' hq => ?_)
  cases r with
  | error e => exact hx pinsZ σZ HZ s1 e s' I1 hq
  | ok fl =>
    cases fl with
    | ret u => exact I1.after hq
    | next => exact False.elim hq
    | brk => exact False.elim hq
    | cont => exact False.elim hq
end
/-- which clause takes an exception of this class -/
inductive Pick (K : PySem.W.Frag) (cls : Value) : List (Value × Str) → Str → Prop
  | here {c : Value} {m : Str} {r : List (Value × Str)} : PySem.W.exmOne K cls c = some true → Pick K cls ((c, m) :: r) m
  | next {c : Value} {m n : Str} {r : List (Value × Str)} : PySem.W.exmOne K cls c = some false → Pick K cls r n → Pick K cls ((c, m) :: r) n
/-- the def that tries what it got, its outcome told of what it makes of the lambda's reading -/
def Gives3 (X : Cx) (Ng : List Str) (x : Str) (sg : Scope) (g : Addr) (cdg : Value) (bg : List Stmt) (a : Str) (q : Str) (TT : (XK → Hp → VK → Prop) → Hp → VK → Prop) : Prop :=
  ∀ (f c' : Addr) (s : Shared) (H : Hp) (Q : VK) (tl : XK → Hp → VK → Prop),
    (∀ (W : WX) (pn : List (Addr × Obj)) (xe : Value → Shared → Prop) (E : XK) (p1 p2 : Pos), Takes ((cxOf CX0 X.prog X.w X.K X.mg X.base Ng x sg g cdg X.A X.stack s H E0).tr pn xe) W → (∀ cls d σ' H', E cls d H' → W cls d σ' H') →
      PE ((cxOf CX0 X.prog X.w X.K X.mg X.base Ng x sg g cdg X.A X.stack s H E0).tr pn xe) (.Call (.Name a p1) [] [] p2) (fun σZ HZ Q => σZ[0]? = some (some (.ref f)) ∧ HZ c' = some (LamX.CodeO c' q) ∧ tl E HZ Q)) →
    H c' = some (LamX.CodeO c' q) → TT tl H Q →
    ∃ t, PSs (cxOf CX0 X.prog X.w X.K X.mg X.base Ng x sg g cdg X.A X.stack s H E0).nox bg t ∧ t { nx := fun _ H' => Q .non H', rt := Q } (L2.start Ng [.ref f]) H
def TTold3 (K : PySem.W.Frag) (hs : List (Value × Str)) (told : Str) : (XK → Hp → VK → Prop) → Hp → VK → Prop := fun tl H Q =>
  tl (fun cls _ H' => ∃ m, Pick K cls hs m ∧ [V.str m].length ≤ sizeLine ∧ ∀ p, H' p = none → Q (.ref p) (upd H' p (.tup [.str m]))) H fun v H' => [V.str told, v].length ≤ sizeLine ∧ ∀ p, H' p = none → Q (.ref p) (upd H' p (.tup [.str told, v]))
theorem told_gives3 {X : Cx} {Ng : List Str} {x a e1 e2 e3 q told m1 m2 m3 : Str} {sg : Scope} {g C1 C2 C3 : Addr} {cdg : Value} {p1 p2 p3 p4 p5 p6 a1 a2 a3 a4 a5 b1 b2 b3 b4 b5 c1 c2 c3 c4 c5 : Pos} {j1 j2 j3 j4 k1 k2 k3 k4 : Nat}
    (n1 : sg.names.lookup e1 = some .globalImplicit) (n2 : sg.names.lookup e2 = some .globalImplicit) (n3 : sg.names.lookup e3 = some .globalImplicit) (g1 : X.mg e1 = some (.ref C1)) (g2 : X.mg e2 = some (.ref C2)) (g3 : X.mg e3 = some (.ref C3))
    (d1 : (e1 == ("__debug__" : Str)) = false) (d2 : (e2 == ("__debug__" : Str)) = false) (d3 : (e3 == ("__debug__" : Str)) = false) (h0 : ∀ f : Addr, (L2.start Ng [V.ref f])[0]? = some (some (V.ref f))) :
    Gives3 X Ng x sg g cdg [.Try [.Return (some (.Tuple [.Constant (.str told) j1 p1, .Call (.Name a p2) [] [] p3] k1 p4)) p5]
      [.ExceptHandler (some (.Name e1 a1)) none [.Return (some (.Tuple [.Constant (.str m1) j2 a2] k2 a3)) a4] a5, .ExceptHandler (some (.Name e2 b1)) none [.Return (some (.Tuple [.Constant (.str m2) j3 b2] k3 b3)) b4] b5, .ExceptHandler (some (.Name e3 c1)) none [.Return (some (.Tuple [.Constant (.str m3) j4 c2] k4 c3)) c4] c5] [] [] p6]
      a q (TTold3 X.K [(.ref C1, m1), (.ref C2, m2), (.ref C3, m3)] told) := by
  intro f c' s H Q tl act hc h
  have hgl1 : Gl (cxOf CX0 X.prog X.w X.K X.mg X.base Ng x sg g cdg X.A X.stack s H E0).nox e1 := n1
  have hgl2 : Gl (cxOf CX0 X.prog X.w X.K X.mg X.base Ng x sg g cdg X.A X.stack s H E0).nox e2 := n2
  have hgl3 : Gl (cxOf CX0 X.prog X.w X.K X.mg X.base Ng x sg g cdg X.A X.stack s H E0).nox e3 := n3
  refine ⟨_, pss_one (ps_try_many (X := (cxOf CX0 X.prog X.w X.K X.mg X.base Ng x sg g cdg X.A X.stack s H E0).nox) (Wout := fun _ _ _ _ => False)
      (tb := fun W D σ H => ∃ Ech : XK, (∀ cls d σ' H', Ech cls d H' → W cls d σ' H') ∧ σ[0]? = some (some (.ref f)) ∧ H c' = some (LamX.CodeO c' q) ∧ tl Ech H fun v H' => [V.str told, v].length ≤ sizeLine ∧ ∀ p, H' p = none → D.rt (.ref p) (upd H' p (.tup [.str told, v])))
      rfl rfl LamX.takes0 (fun W pn xe tk _ => ?_)
      (.cons ⟨hgl1, d1, .inl g1⟩ (fun a oe cls d pn _ _ => pss_one (ps_ret (pe_tup (pa_cons pe_str pa_nil)))) (.cons ⟨hgl2, d2, .inl g2⟩ (fun a oe cls d pn _ _ => pss_one (ps_ret (pe_tup (pa_cons pe_str pa_nil)))) (.cons ⟨hgl3, d3, .inl g3⟩ (fun a oe cls d pn _ _ => pss_one (ps_ret (pe_tup (pa_cons pe_str pa_nil)))) .nil)))), ?_⟩
  · refine ⟨fun pins s' σ H' D I h' => ?_⟩
    obtain ⟨Ech, hW, h1, h2, h3⟩ := h'
    have hp := act W pn xe Ech p2 p3 tk hW
    have hq := pss_one (ps_ret (pos := p5) (pe_tup (x1 := k1) (pos := p4) (pa_cons (pe_str (x := told) (j := j1) (pos := p1)) (pa_cons hp pa_nil))))
    refine hq.run pins s' σ H' D I ?_
    exact ⟨h1, h2, h3⟩
  · refine ⟨fun cls _ H' => ∃ m, Pick X.K cls [(.ref C1, m1), (.ref C2, m2), (.ref C3, m3)] m ∧ [V.str m].length ≤ sizeLine ∧ ∀ p, H' p = none → Q (.ref p) (upd H' p (.tup [.str m])), fun cls d σ' H' ⟨m, pk, hq⟩ => ?_, h0 f, hc, h⟩
    cases pk with
    | here e => exact ⟨true, e, fun _ a _ => hq, (fun z => by cases z)⟩
    | next e pk =>
      refine ⟨false, e, (fun z => by cases z), fun _ => ?_⟩
      cases pk with
      | here e => exact ⟨true, e, fun _ a _ => hq, (fun z => by cases z)⟩
      | next e pk =>
        refine ⟨false, e, (fun z => by cases z), fun _ => ?_⟩
        cases pk with
        | here e => exact ⟨true, e, fun _ a _ => hq, (fun z => by cases z)⟩
        | next e pk => cases pk
/-- what the def tells of an outcome -/
def toldO (res : Str → Option Str) (told : Str) : Out (D × Store) → Out (D × Store)
  | .ok (.pd d, μ) => .ok (.pd (.tuple [.str told, d]), μ)
  | .exc c [] μ => match res c with
    | some m => .ok (.pd (.tuple [.str m]), μ)
    | none => .stuck
  | _ => .stuck
theorem toldO_none {res : Str → Option Str} {told c : Str} {μ : Store} (h : res c = none) : toldO res told (.exc c [] μ) = .stuck := by
  show (match res c with | some m => Out.ok (D.pd (.tuple [.str m]), μ) | none => Out.stuck) = _
  rw [h]
theorem toldO_some {res : Str → Option Str} {told c m : Str} {μ : Store} (h : res c = some m) : toldO res told (.exc c [] μ) = .ok (.pd (.tuple [.str m]), μ) := by
  show (match res c with | some m => Out.ok (D.pd (.tuple [.str m]), μ) | none => Out.stuck) = _
  rw [h]
def eTold (P : Addr) (q : Str) (res : Str → Option Str) (told : Str) (eb : EvE) : EvE := fun env μ => match (μ[0]? : Option Cell) with
  | some (.tab P' q') => if P' = P ∧ q' = q then toldO res told (eb env μ) else .stuck
  | _ => .stuck
section
variable {X : Cx} {W : Wish}
/-- x(lambda: body) -/
theorem se_told {hs : List (Value × Str)} {res : Str → Option Str} {told x a : Str} {g c P : Addr} {k : Nat} {pg : Arguments} {bg : List Stmt} {sg : Scope} {dV kV doc pm cdv ct oc : Value} {an od : Option Addr} {osl : Array (Option Value)} {Ng : List Str}
    {params : Arguments} {body : Expr} {scope : Scope} {eb : EvE} {p lpos pos : Pos} (hg : Gl X x) (hm : X.mg x = some (.ref g)) (hk : PySem.W.keepIn X.K (.ref g) = true)
    (lk : X.K.lookup g = some ⟨oc, od, .func (PySem.W.fnOf x x pg bg sg dV kV doc pm an cdv ct), osl⟩) (hcg : PySem.W.codeIn X.K cdv x = true) (hb : L2.Binds X.K (PySem.W.fnOf x x pg bg sg dV kV doc pm an cdv ct) [a] []) (Sg : FnScope Ng [a] sg) (hNg : Ng[0]? = some a) (hva : Vis sg a)
    (hG : Gives3 X Ng x sg g cdv bg a (X.env.qual ++ "<lambda>") (TTold3 X.K hs told)) (hres : ∀ c m, res c = some m → ∀ C, X.mg c = some (.ref C) → Pick X.K (.ref C) hs m)
    (TB : LamX.TabB X.base X.mg c P) (hcode : X.env.code = .ref c) (hr : Rm (k + 2) X.A) (L : LamX.LamS X.env.scope scope) (hdef : defaultsOf params X.env = ([], []))
    (hbind : ∀ (q : Str) (cl : List (Str × Addr)) (pm cv ctv : Value), bindArgs (PySem.W.kla_fn "<lambda>" q params body scope cl pm cv ctv) ⟨[], []⟩ = pure [])
    (hbody : ∀ (W' : Wish) (A : Around) (outer : List PySem.Env) (s : Shared) (H : Hp) (E : XK) (f c' : Addr), Rm k (A.deeper (LamX.lamEnv X scope s.heap.objs.size f c')) → TkW (LamX.lamCx X A outer s H E scope f c') W' → SE (LamX.lamCx X A outer s H E scope f c') W' body eb)
    (hdb : (x == ("__debug__" : Str)) = false := by decide) (hd : (a == ("__debug__" : Str)) = false := by decide) (hcd : (a == ("__classdict__" : Str)) = false := by decide) :
    SE X W (.Call (.Name x p) [.Lambda params body scope lpos] [] pos) (eTold P (X.env.qual ++ "<lambda>") res told eb) := by
  refine ⟨fun pins s σ H Q I h => ?_⟩
  obtain ⟨ad, xs, env, μ, sr, w, h⟩ := h
  unfold eTold at h
  cases h0 : μ[0]? with
  | none => rw [h0] at h; exact h.elim
  | some c0 =>
    rw [h0] at h
    cases c0 with
    | tab P' q' =>
      dsimp only at h
      by_cases hq : P' = P ∧ q' = X.env.qual ++ "<lambda>"
      · rw [if_pos hq] at h
        obtain ⟨rfl, rfl⟩ := hq
        have hl0 : 0 < ad.length := by
          rw [w.len]
          exact (List.getElem?_eq_some_iff.mp h0).1
        obtain ⟨a0, ha0⟩ : ∃ a0, ad[0]? = some a0 := ⟨_, List.getElem?_eq_getElem hl0⟩
        obtain ⟨ea, ps, hP, ht, hco⟩ := w.cell 0 a0 _ ha0 h0
        subst ea
        have am : a0 ∈ ad := List.mem_of_getElem? ha0
        refine wpAny_Call_Name_kw (ld_glob I hg hm ?_ hdb)
        refine PySem.W.callWith_K (h₀ := X.base) I.ok.mod.kin hk ?_ (by rfl) (by rfl)
        show wpAny _ _ (spliced ((false, eval (.Lambda params body scope lpos) X.env) :: backTo pos (starEach [] X.env))) _ _ s
        refine Calls.spliced_cons (lam_make3 I TB hcode hP ht (fun pos cv hc => by
          obtain ⟨c1, h1, h2⟩ := hco pos cv hc
          exact ⟨c1, h1, (Im_some h2).2.2⟩) hdef (L.has I.ok) fun f c' pm' ctv ps1 H1 s' I1 eN hP1 ht1 hc1 hf hfn hfr hcod => ?_)
        refine Calls.spliced_nil ⟨I1.kIn, ?_⟩
        -- what the lambda's making leaves
        have sm : Same (Im H ad xs) (Im H1 ad xs) := fun b o z => by
          obtain ⟨z1, z2, z3⟩ := Im_some z
          exact Im_of z1 z2 (eN b o (fun y => z1 (y ▸ am)) z3)
        have nd := List.nodup_append.mp w.nd
        have keepT : ∀ b, (b ∈ ad ∨ b ∈ xs) → b ≠ a0 → H1 b = H b := fun b hb hn => by
          obtain ⟨o, ho⟩ := w.there b hb
          rw [ho]
          exact eN b o hn ho
        have w1 : WOk X.K H1 ad xs μ := by
          refine ⟨w.len, w.nd, fun b hb => ?_, fun l b c1 e1 e2 => ?_⟩
          · by_cases hn : b = a0
            · rw [hn]; exact ⟨_, hP1⟩
            · rw [keepT b hb hn]; exact w.there b hb
          · by_cases hn : b = a0
            · subst hn
              have l0 : l = 0 := by
                obtain ⟨q1, p1⟩ := List.getElem?_eq_some_iff.mp e1
                obtain ⟨q2, p2⟩ := List.getElem?_eq_some_iff.mp ha0
                exact (List.getElem_inj nd.1).mp (p1.trans p2.symm)
              subst l0
              rw [h0] at e2
              cases e2
              refine ⟨rfl, ps1, hP1, ht1, fun pos cv hc => ?_⟩
              obtain ⟨c2, k1, k2, k3⟩ := hc1 pos cv hc
              refine ⟨c2, k1, ?_⟩
              have nin : ∀ b, (b ∈ ad ∨ b ∈ xs) → c2 ≠ b := fun b hb z => by
                rcases k3 with k3 | ⟨pos', k3⟩
                · obtain ⟨o, ho⟩ := w.there b hb
                  rw [← z, k3] at ho
                  cases ho
                · obtain ⟨c3, m1, m2⟩ := hco pos' cv k3
                  rw [k1] at m1
                  cases m1
                  obtain ⟨z1, z2, _⟩ := Im_some m2
                  rcases hb with hb | hb
                  · exact z1 (z ▸ hb)
                  · exact z2 (z ▸ hb)
              exact Im_of (fun z => nin _ (.inl z) rfl) (fun z => nin _ (.inr z) rfl) k2
            · exact (w.cell l b c1 e1 e2).grow sm ⟨[], by simp⟩ (keepT b (.inl (List.mem_of_getElem? e1)) hn)
        have e1 : Ext H ad xs H1 ad := ⟨sm, ⟨[], by simp⟩, fun b hb => keepT b (.inr hb) fun z => nd.2.2 a0 am b hb z.symm⟩
        have sr1 := sr.ext e1
        -- the def that tries it
        obtain ⟨o0, ho0⟩ : ∃ o0, o0 = eb env μ := ⟨_, rfl⟩
        rw [← ho0] at h
        have tt : TTold3 X.K hs told (fun E H' Q' => tD X.K (fun c fs H'' ad'' μ'' => ∀ C, X.mg c = some (.ref C) → E (.ref C) none H'') eb σ H' Q') H1 Q := by
          refine ⟨ad, xs, env, μ, sr1, w1, ?_⟩
          rw [← ho0]
          revert h
          cases o0 with
          | stuck => exact fun h => h
          | exc c1 fs μ1 =>
            intro h H2 ad2 e2 w2 C hC
            cases fs with
            | cons y r => exact (show False from h).elim
            | nil =>
              cases hr1 : res c1 with
              | none => rw [toldO_none hr1] at h; exact (show False from h).elim
              | some m =>
                rw [toldO_some hr1] at h
                refine ⟨m, hres c1 m hr1 C hC, by show 1 ≤ sizeLine; exact sizeLine_ge (by decide), fun p hp => ?_⟩
                obtain ⟨w3, e3, i3⟩ := w2.new (o := .tup [.str m]) hp
                exact h (upd H2 p (.tup [.str m])) ad2 ((e1.trans e2).trans e3) w3 _ (.tup (.inl (.inl i3)) (.cons (.str m) .nil))
          | ok r =>
            obtain ⟨d, μ1⟩ := r
            intro h H2 ad2 e2 w2 v rv
            cases d with
            | pd d =>
              refine ⟨by show 2 ≤ sizeLine; exact sizeLine_ge (by decide), fun p hp => ?_⟩
              obtain ⟨w3, e3, i3⟩ := w2.new (o := .tup [.str told, v]) hp
              exact h (upd H2 p (.tup [.str told, v])) ad2 ((e1.trans e2).trans e3) w3 _ (.tup (.inl (.inl i3)) (.cons (.str told) (.cons (Ly.grow e3.same rv) .nil)))
            | ref l => exact (show False from h).elim
            | scr ns => exact (show False from h).elim
        have rc : codeAny (model X.prog X.w) X.A (.call (.ref g) ⟨[.ref f], []⟩) (CR CX0 X.stack X.prog X.w H1 s' Q E0) s' := by
          refine LamX.run_ofS (N := Ng) (ps := [a]) (us := [.ref f]) (vs := [.ref f]) lk hcg Sg hr.rm I1.env0 (hb s' [.ref f] I1.kIn rfl) (.cons rfl .nil) rfl fun hr' => ?_
          have hr2 : Rm (k + 1) (X.A.deeper (envOfC x sg s'.heap.objs.size g cdv)) := hr.deep _
          obtain ⟨t', ht', hq'⟩ := hG f c' s' H1 Q _ (fun W1 pn xe E p1 p2 tk hW => pe_act3 (i := 0) (tb := tD X.K (fun c fs H'' ad'' μ'' => ∀ C, X.mg c = some (.ref C) → E (.ref C) none H'') eb) I1 L hf hfn hfr (hbind _ _ _ _ _) tk hW hr2 (fun A outer s H hr3 => hbody _ A outer s H E f c' hr3 ((takes_of rfl rfl rfl rfl : Takes (LamX.lamCx X A outer s H E scope f c') (fun cls d _ H => E cls d H)).imp fun cls d σ H' hz => by
            obtain ⟨c, C, ad, μ, h1, h2, h3, h4⟩ := hz
            subst h2 h3
            exact h4 C h1)) hNg hva hd hcd) hcod tt
          exact ⟨t', ht'.nox, hq'⟩
        refine wpAny_call (codeAny_mono rc fun r s2 hq => ?_)
        cases r with
        | error e => exact (show False from hq).elim
        | ok fl =>
          cases fl with
          | ret u => exact I1.after hq
          | next => exact False.elim hq
          | brk => exact False.elim hq
          | cont => exact False.elim hq
      · rw [if_neg hq] at h
        exact h.elim
    | _ => exact h.elim
end
end Zd

set_option Elab.async false
set_option linter.all false
set_option maxRecDepth 100000
set_option maxHeartbeats 4000000
/-! By value: the end of a law whose own def makes lambdas. -/
namespace Zd
open PySem PySem.Spec PyProof.Rows L2
section
variable {P : Program} {w : World} {K : PySem.W.Frag} {mg : Str → Option Value} {base : Heap}
/-- a def by its body, its code object known -/
theorem fk_ofC {x : Str} {st : Stmt} {f : Addr} {N ps : List Str} {k : Nat} {sp : Sq} {oc kV doc pm cdv ct : Value} {od an : Option Addr} {osl : Array (Option Value)}
    (lk : K.lookup f = some ⟨oc, od, .func (PySem.W.fnOf x x (defArgs st) (defBody st) (defScope st) .none kV doc pm an cdv ct), osl⟩) (hcd : PySem.W.codeIn K cdv x = true) (S : FnScope N ps (defScope st)) (len : ∀ vs H Q, sp vs H Q → vs.length = ps.length)
    (hb : ∀ (A : Around) (outer : List PySem.Env) (s : Shared) (H : Hp) (vs : List V) (Q : VK), Rm k (A.deeper (envOfC x (defScope st) s.heap.objs.size f cdv)) → sp vs H Q →
      ∃ t, PSs (cxOf CX0 P w K mg base N x (defScope st) f cdv A outer s H E0) (defBody st) t ∧ t { nx := fun _ H' => Q .non H', rt := Q } (start N vs) H) : FK P w K mg base (k + 1) f (PySem.W.fnOf x x (defArgs st) (defBody st) (defScope st) .none kV doc pm an cdv ct) ps sp := by
  refine ⟨len, fun A outer s H args us vs Q rr e0 bd rv hs => ?_⟩
  have nvs := len _ _ _ hs
  have keep : ∀ b o, base.get? b = some o → s.heap.get? b = some o := fun b o e => (e0.bs b o e).1
  have kin : K.In s.heap := e0.mod.kin.keeps keep
  have nol : s.heap.NoLimit := e0.mod.nolimit.keeps keep
  have kinds : ∀ y ∈ ps.zip us, (defScope st).names.lookup y.1 = some .local ∨ ((defScope st).names.lookup y.1 = some .cell ∧ ((cellsFrom (s.heap.objs.size + 1) (defScope st).names []).lookup y.1).isSome = true) := by
    rintro ⟨n, v⟩ hy
    cases S.par n (List.of_mem_zip hy).1 with
    | inl q => exact .inl q
    | inr q => exact .inr ⟨q, PySem.W.cellsFrom_some _ _ _ (.inl q)⟩
  apply codeAny_call_function rr.rm.depth (kin _ _ lk) rfl S.co S.gen rfl (PySem.W.codeRec_of kin hcd)
  apply bd
  apply wpAny_newFunctionEnv_cells S.kind kinds
  intro env henv s1 ic
  subst henv
  refine ⟨nol.keeps ic.toInCall.keep, codeAny_func ?_⟩
  obtain ⟨t, ht, hq⟩ := hb A outer s H vs Q (rr.deep _) hs
  have I0 := inv_start (CX := CX0) (E := E0) (P := P) (w := w) (f := f) (cd := cdv) (qual := x) S rr.rm.hd e0 nvs rv ic
  refine wpAny_mono (ht.run [] s1 (start N vs) H _ I0 hq) (fun fl s2 h2 => ?_) (fun e s2 h2 => h2)
  cases fl with
  | next =>
    obtain ⟨τ, H', J, q⟩ := h2
    exact ⟨.non, H', J.os, J.bare, J.base, J.hok, rfl, q⟩
  | ret u =>
    obtain ⟨v, τ, H', J, rv', q⟩ := h2
    exact ⟨v, H', J.os, J.bare, J.base, J.hok, rv', q⟩
  | brk => exact h2.elim fun _ h => h.elim fun _ h => h.2.elim
  | cont => exact h2.elim fun _ h => h.elim fun _ h => h.2.elim
theorem fk_LC {x : Str} {st : Stmt} {f : Addr} {N ps : List Str} {k : Nat} {ev : EvS} {oc kV doc pm cdv ct : Value} {od an : Option Addr} {osl : Array (Option Value)}
    (lk : K.lookup f = some ⟨oc, od, .func (PySem.W.fnOf x x (defArgs st) (defBody st) (defScope st) .none kV doc pm an cdv ct), osl⟩) (hcd : PySem.W.codeIn K cdv x = true) (S : FnScope N ps (defScope st))
    (hb : ∀ (A : Around) (outer : List PySem.Env) (s : Shared) (H : Hp), Rm k (A.deeper (envOfC x (defScope st) s.heap.objs.size f cdv)) → SSs (cxOf CX0 P w K mg base N x (defScope st) f cdv A outer s H E0).nox W0 (defBody st) ev) :
    FK P w K mg base (k + 1) f (PySem.W.fnOf x x (defArgs st) (defBody st) (defScope st) .none kV doc pm an cdv ct) ps (spS K ps.length (fnL ps.length N.length ev)) := by
  refine fk_ofC lk hcd S (fun vs H Q h => ?_) fun A outer s H vs Q hr h => ⟨_, PSs.nox (hb A outer s H hr), ?_⟩
  · obtain ⟨_, _, _, _, e, _⟩ := h
    exact e
  · obtain ⟨ad, xs, μ, ds, hl, wk, ra, hp⟩ := h
    exact ⟨ad, xs, startE N.length ds, μ, srep_start ra (by rw [hl]; exact scope_le S), wk, fnL_post hp⟩
end
/-- the heap tells the script and the table of code objects -/
theorem call_atT {P : Program} {w : World} {K : PySem.W.Frag} {mg mb : Str → Option Value} {k : Nat} {fa a c T : Addr} {fd : FuncData} {x : Str} {sp : Sq} {s1 : Shared} {us : List Value} {H : Hp}
    (kin : K.In s1.heap) (hg : s1.heap.Ns mainGlobals mg) (hb : s1.heap.Ns builtinsNs mb) (hbb : ∀ y : Str, y ≠ "__name__" → mb y = bootBuiltins y) (hlim : s1.heap.NoLimit) (hgen : s1.gens = #[])
    (hT : s1.heap.get? T = some { cls := .none, data := .fields #[] }) (nT : K.lookup T = none) (C : PySem.W.codeHdIn K c T = true)
    (hbm : ∃ (bm : Addr) (ob : Obj), mg "__builtins__" = some (.ref bm) ∧ bm ≠ builtinsNs ∧ s1.heap.get? bm = some ob ∧ ob.cls = .type "module" ∧ ob.dict = some builtinsNs ∧ ob.data = .plain)
    (ha : s1.heap.get? a = some { cls := .type "list", data := .seq us.toArray }) (hr : Rm k callerA) (F : ∀ base : Heap, K.In base → base.Ns mainGlobals mg → LamX.TabB base mg c T → FK P w K mg base k fa fd [x] sp)
    (bd : ∀ (s : Shared) (u : Value), BindsTo s fd ⟨[u], []⟩ [(x, u)]) (hsp : sp [.ref a] H fun v _ => v = .bl true)
    (ok : HOk P w H s1.heap) (hHT : H T = some (.tbl #[])) (only : ∀ b, b ≠ T → H b = none ∨ ∃ o xs, H b = some (.frz o (.lst xs))) (alone : ∀ b, b ≠ T → H b ≠ none → b = a) (apart : H a ≠ none → K.lookup a = none) :
    codeAny (model P w) callerA (.call (.ref fa) ⟨[.ref a], []⟩) (fun r s' => r = .ok (.ret (.bool true)) ∧ OldK s1.heap s'.heap ∧ s'.os = s1.os ∧ AllBare s'.gens) s1 := by
  have free : ∀ {b : Addr} {o : Obj}, s1.heap.get? b = some o → (∀ vs n, o.data ≠ .seq vs n) → o.data ≠ .fields #[] → H b = none := by
    intro b o e h1 h2
    refine Classical.byContradiction fun z => ?_
    by_cases bT : b = T
    · rw [bT, hT] at e
      cases e
      exact h2 rfl
    · rw [alone b bT z, ha] at e
      cases e
      exact h1 _ _ rfl
  have ns2 : ∀ {b : Addr} {m : Str → Option Value}, s1.heap.Ns b m → (hidT s1.heap H).Ns b m := by
    rintro b m ⟨o, es, ep, e, d, r⟩
    exact ⟨o, es, ep, hidT_get e (free e (fun vs n z => by rw [d] at z; cases z) (fun z => by rw [d] at z; cases z)), d, r⟩
  have kin2 : K.In (hidT s1.heap H) := by
    intro b o e
    refine hidT_get (kin b o e) (Classical.byContradiction fun z => ?_)
    by_cases bT : b = T
    · rw [bT, nT] at e
      cases e
    · have y := alone b bT z
      subst y
      rw [apart z] at e
      cases e
  obtain ⟨mc, l1, l2⟩ := hlim
  have md : Mod K mg (hidT s1.heap H) := ⟨kin2, ns2 hg, ⟨mb, ns2 hb, hbb⟩, ⟨mc, ns2 l1, l2⟩⟩
  have TB : LamX.TabB (hidT s1.heap H) mg c T := by
    refine ⟨PySem.W.codeHd_of_K kin2 C, ?_, fun z => ?_⟩
    · obtain ⟨bm, ob, b1, b2, b3, b4, b5, b6⟩ := hbm
      refine ⟨bm, ob, b1, b2, fun q => ?_, fun q => ?_, hidT_get b3 (free b3 (fun vs n z => by rw [b6] at z; cases z) (fun z => by rw [b6] at z; cases z)), b4, b5, b6⟩
      · obtain ⟨o, es, ep, e, d, _⟩ := hg
        rw [q, e] at b3
        cases b3
        rw [d] at b6
        cases b6
      · rw [q, hT] at b3
        cases b3
        cases b6
    · obtain ⟨o, es, ep, e, d, _⟩ := hg
      rw [z, hT] at e
      cases e
      cases d
  have e0 : Env0 P w K mg (hidT s1.heap H) callerA [] s1 H := by
    refine ⟨rfl, md, fun b o e => of_hidT e, Nat.le_of_eq (hidT_size _ _), trivial, fun b z => ?_, ok, .of_eq hgen⟩
    exact absurd (show b ∈ ([] : List Addr) from z) (by simp)
  refine codeAny_mono ((F _ kin2 (ns2 hg) TB).run callerA [] s1 H ⟨[.ref a], []⟩ [.ref a] [.ref a] _ hr e0 (bd s1 (.ref a)) (.cons rfl .nil) hsp) fun r s' h => ?_
  match r, h with
  | .ok (.ret u), ⟨v, H', os, bare, un, ok', rv, qv⟩ =>
    cases (show v = V.bl true from qv)
    cases (show u = Value.bool true from rv)
    have key : ∀ b o, b ≠ T → s1.heap.get? b = some o → s'.heap.get? b = some o := by
      intro b o bT e
      cases z : H b with
      | none => exact un.keep b o e z (fun y => absurd (show b ∈ ([] : List Addr) from y) (by simp)) (by simp)
      | some t =>
        rcases only b bT with y | ⟨ob, xs, y⟩
        · rw [z] at y
          cases y
        · obtain ⟨g1, _⟩ := ok b _ y
          obtain ⟨g2, _⟩ := ok' b _ (un.frzs b ob _ y)
          rw [e] at g1
          cases g1
          exact g2
    obtain ⟨more, hm⟩ := un.tbls T #[] hHT
    have hm' : s'.heap.get? T = some { cls := .none, data := .fields (#[] ++ more) } := ok' T _ hm
    refine ⟨rfl, ⟨fun b o e => ?_, fun b o e => ?_⟩, os, bare⟩
    · by_cases bT : b = T
      · subst bT
        rw [hT] at e
        cases e
        exact .inr (.inl ⟨((PySem.W.codeHd_of_K kin C).tab hT).isCodeTable, rfl, #[], more, rfl, hm'⟩)
      · exact .inl (key b o bT e)
    · by_cases bT : b = T
      · subst bT
        exact ⟨_, hm'⟩
      · exact ⟨o, key b o bT e⟩
/-- a law's def by value that makes lambdas: T is the table of its code objects, q the lambdas' name -/
theorem walk_valT {l : PySem.W.OpenLaw} {n k : Nat} {q : Program} {loose : List Str} {XP : (Str → Option Value) → Heap → Prop} {YP : World → Heap → Prop} {d : DefRec} {Kf : Params → PySem.W.Frag} {G : Addr → FnS} {x : Str} (lam : Str)
    (hn : l.most = some n) (hn2 : n ≤ sizeLine) (hdf : d.params.defaults = []) (hr : Rm k callerA) (hrec : ((recsOf q).any fun e => e.name == d.name) = true) (hY : ∀ (w : World) (h : Heap), YP w h → (Kf w.params).In h)
    (F : ∀ (w : World) (mg : Str → Option Value) (fa : Addr) (h : Heap), (Kf w.params).In h → h.Ns mainGlobals mg → mg d.name = some (.ref fa) → LamX.OwnTab (Kf w.params) fa h →
      ∃ (fd : FuncData) (c T : Addr), h.get? T = some { cls := .none, data := .fields #[] } ∧ (Kf w.params).lookup T = none ∧ PySem.W.codeHdIn (Kf w.params) c T = true ∧ (∀ (s : Shared) (u : Value), BindsTo s fd ⟨[u], []⟩ [(x, u)]) ∧
        ∀ base : Heap, (Kf w.params).In base → base.Ns mainGlobals mg → LamX.TabB base mg c T → FK l.prog w (Kf w.params) mg base k fa fd [x] (spS (Kf w.params) 1 (G T)))
    (hG : ∀ (T : Addr) (ns : List Int), ns.length ≤ n → (∀ z ∈ ns, Builtin.Int.intBits z ≤ 1048576) → ∃ μ, G T [.scr ns] [.tab T lam] = .ok (.pd (.bool true), μ)) :
    PySem.W.WalkO q loose XP YP l.row.toRowW d [] (fun f vs => PySem.call f vs) := by
  refine Att.attach_callB hn hdf fun w s0 s1 mg mb fa o pm cd doc a us ns Gr Y ho hd hcd hmg hobj hints hlen hbits hg => ?_
  have kin := hY w _ Y
  have own : LamX.OwnTab (Kf w.params) fa s1.heap := fun c P o1 fd1 e dd vs1 sl k1 k2 k3 k4 k5 => by
    obtain ⟨dL, hm, hn1⟩ := List.any_eq_true.mp hrec
    obtain ⟨a', o', fd', c', P', h1, h2, h3, h4, h5, h6⟩ := Gr.T.tab dL hm
    rw [beq_iff_eq.mp hn1, hmg] at h1
    cases h1
    have g1 := kin _ _ k1
    rw [g1] at h2
    cases h2
    rw [k2] at h3
    cases h3
    rw [k3] at h4
    cases h4
    obtain ⟨⟨oc, vc, e1, _, e3, e4⟩, hP⟩ := h6
    have g2 := kin _ _ k4
    rw [g2] at e1
    cases e1
    cases e3
    rw [k5] at e4
    cases e4
    exact hP
  obtain ⟨fd, c, T, hT, nT, C, hb, hF⟩ := F w mg fa _ kin Gr.T.g hmg own
  obtain ⟨μf, hval⟩ := hG T ns hlen hbits
  have vs := vals_ints hints
  have lv := hints.length
  have aT : a ≠ T := fun z => by
    rw [z, hT] at hobj
    cases hobj
  have wish : ∀ H : Hp, H T = some (.tbl #[]) → SqL (Kf w.params) (Im H [T] []) a (ns.map V.int) → spS (Kf w.params) 1 (G T) [.ref a] H fun v _ => v = .bl true := by
    intro H hHT hS
    refine ⟨[T], [], [.tab T lam], [.scr ns], rfl, ⟨rfl, by simp, fun b hb => ?_, fun l b c e1 e2 => ?_⟩, .cons ⟨a, rfl, hS⟩ .nil, ?_⟩
    · rcases hb with hb | hb
      · rw [List.mem_singleton.mp hb]
        exact ⟨_, hHT⟩
      · simp at hb
    · cases l with
      | zero =>
        simp only [List.getElem?_cons_zero, Option.some.injEq] at e1 e2
        subst e1 e2
        exact ⟨rfl, #[], hHT, trivial, fun pos cv hc => by
          simp [codeAmong] at hc⟩
      | succ l => simp at e1
    rw [hval]
    intro H' ad' _ _ v rv
    cases rv
    rfl
  have tabok : ∀ (b : Addr) (u : HO), b = T → some (HO.tbl #[]) = some u → True := fun _ _ _ _ => trivial
  by_cases z : (Kf w.params).lookup a = none
  · let o0 : Obj := { cls := .type "list", data := .seq us.toArray }
    let H : Hp := fun b => if b = a then some (HO.frz o0 (.lst (ns.map V.int))) else if b = T then some (.tbl #[]) else none
    have hHa : H a = some (HO.frz o0 (.lst (ns.map V.int))) := if_pos rfl
    have hHT : H T = some (.tbl #[]) := by
      show (if T = a then _ else _) = _
      rw [if_neg (Ne.symm aT), if_pos rfl]
    have hHn : ∀ b, b ≠ a → b ≠ T → H b = none := fun b h1 h2 => by
      show (if b = a then _ else _) = _
      rw [if_neg h1, if_neg h2]
    refine call_atT kin Gr.T.g Gr.T.b Gr.T.builtins Gr.T.nolimit hg hT nT C Gr.T.bmain hobj hr hF hb (H := H) (wish H hHT (.inl (.inr ⟨o0, Im_of (by simpa using aT) (by simp) hHa⟩))) (fun b u e => ?_) hHT (fun b bT => ?_) (fun b bT e => ?_) fun _ => z
    · by_cases h1 : b = a
      · rw [h1, hHa] at e
        cases e
        rw [h1]
        exact ⟨hobj, by rw [List.length_map]; exact Nat.le_trans hlen hn2, us, _, vs, hobj⟩
      · by_cases h2 : b = T
        · rw [h2, hHT] at e
          cases e
          rw [h2]
          exact hT
        · rw [hHn b h1 h2] at e
          cases e
    · by_cases h1 : b = a
      · rw [h1]
        exact .inr ⟨_, _, hHa⟩
      · exact .inl (hHn b h1 bT)
    · exact Classical.byContradiction fun h1 => e (hHn b h1 bT)
  · obtain ⟨ob, hob⟩ := Option.ne_none_iff_exists'.mp z
    have e := kin a ob hob
    rw [hobj] at e
    cases e
    let H : Hp := fun b => if b = T then some (.tbl #[]) else none
    have hHT : H T = some (.tbl #[]) := if_pos rfl
    have hHn : ∀ b, b ≠ T → H b = none := fun b h1 => if_neg h1
    refine call_atT kin Gr.T.g Gr.T.b Gr.T.builtins Gr.T.nolimit hg hT nT C Gr.T.bmain hobj hr hF hb (H := H) (wish H hHT (.inr ⟨_, us.toArray, _, hob, rfl, rfl, rfl, by rw [List.size_toArray, lv]; exact Nat.le_trans hlen hn2, by simpa using vs⟩)) (fun b u e => ?_) hHT (fun b bT => .inl (hHn b bT)) (fun b bT e => absurd (hHn b bT) e) fun e => absurd (hHn a aT) e
    by_cases h2 : b = T
    · rw [h2, hHT] at e
      cases e
      rw [h2]
      exact hT
    · rw [hHn b h2] at e
      cases e

/-! ### the def that tries what it gets -/
theorem tkW0 {X : Cx} : TkW X W0 := LamX.takes0.imp fun _ _ _ _ ⟨_, _, _, _, _, _, _, h⟩ => h
structure ToldD (K : PySem.W.Frag) (mg : Str → Option Value) (x : Str) (res : Str → Option Str) (told : Str) : Prop where
  ex : ∃ (g : Addr) (oc kV doc pm cdv ct dV : Value) (an od : Option Addr) (osl : Array (Option Value)) (pg : Arguments) (bg : List Stmt) (sg : Scope) (Ng : List Str) (a : Str) (hs : List (Value × Str)),
    mg x = some (.ref g) ∧ PySem.W.keepIn K (.ref g) = true ∧ K.lookup g = some ⟨oc, od, .func (PySem.W.fnOf x x pg bg sg dV kV doc pm an cdv ct), osl⟩ ∧ PySem.W.codeIn K cdv x = true ∧ L2.Binds K (PySem.W.fnOf x x pg bg sg dV kV doc pm an cdv ct) [a] [] ∧ FnScope Ng [a] sg ∧ Ng[0]? = some a ∧ Vis sg a ∧
    (a == ("__debug__" : Str)) = false ∧ (a == ("__classdict__" : Str)) = false ∧ (∀ X : Cx, X.K = K → X.mg = mg → ∀ q, Gives3 X Ng x sg g cdv bg a q (TTold3 K hs told)) ∧ ∀ c m, res c = some m → ∀ C, mg c = some (.ref C) → Pick K (.ref C) hs m
section
variable {X : Cx} {W : Wish}
theorem se_toldD {res : Str → Option Str} {told x lam : Str} {c P : Addr} {k : Nat} {params : Arguments} {body : Expr} {scope : Scope} {eb : EvE} {p lpos pos : Pos} (D : ToldD X.K X.mg x res told) (TB : LamX.TabB X.base X.mg c P) (hcode : X.env.code = .ref c) (hlam : X.env.qual ++ "<lambda>" = lam) (hr : Rm (k + 2) X.A)
    (hbody : ∀ (W' : Wish) (A : Around) (outer : List PySem.Env) (s : Shared) (H : Hp) (E : XK) (f c' : Addr), Rm k (A.deeper (LamX.lamEnv X scope s.heap.objs.size f c')) → TkW (LamX.lamCx X A outer s H E scope f c') W' → SE (LamX.lamCx X A outer s H E scope f c') W' body eb)
    (hg : Gl X x := by rfl) (hL : LamX.lamSB X.env.scope scope = true := by rfl) (hdef : defaultsOf params X.env = ([], []) := by rfl)
    (hbind : ∀ (q : Str) (cl : List (Str × Addr)) (pm cv ctv : Value), bindArgs (PySem.W.kla_fn "<lambda>" q params body scope cl pm cv ctv) ⟨[], []⟩ = pure [] := by intros; rfl)
    (hdb : (x == ("__debug__" : Str)) = false := by decide) :
    SE X W (.Call (.Name x p) [.Lambda params body scope lpos] [] pos) (eTold P lam res told eb) := by
  obtain ⟨g, oc, kV, doc, pm, cdv, ct, dV, an, od, osl, pg, bg, sg, Ng, a, hs, h1, h2, h3, h4, h5, h6, h7, h8, h9, h10, h11, h12⟩ := D.ex
  subst hlam
  exact se_told (hs := hs) (a := a) hg h1 h2 h3 h4 h5 h6 h7 h8 (h11 X rfl rfl _) h12 TB hcode hr (LamX.lamS_by hL) hdef hbind hbody hdb h9 h10
end
/-- whether an exception of class C is taken by `except D` -/
theorem exm_mk {K : PySem.W.Frag} {C D : Addr} {b : Bool} (h1 : PySem.W.subIn K (.ref D) (.type "BaseException") = some true) (h2 : PySem.W.isClsIn K D = true) (h3 : PySem.W.typeIn K (.ref D) = some (.type "type")) (h4 : PySem.W.subIn K (.ref C) (.ref D) = some b) : PySem.W.exmOne K (.ref C) (.ref D) = some b := by
  have e1 : (PySem.W.subIn K (.ref D) (.type "BaseException") == some true) = true := by rw [h1] <;> rfl
  have e2 : ((PySem.W.clsIn K D).isSome && PySem.W.typeIn K (.ref D) == some (.type "type")) = true := by
    have h2' : (PySem.W.clsIn K D).isSome = true := h2
    rw [h2', h3] <;> rfl
  unfold PySem.W.exmOne
  rw [if_pos e1]
  show (if ((PySem.W.clsIn K D).isSome && PySem.W.typeIn K (.ref D) == some (.type "type")) = true then PySem.W.subIn K (.ref C) (.ref D) else none) = some b
  rw [if_pos e2]
  exact h4
theorem exCls_mk {K : PySem.W.Frag} {mg : Str → Option Value} {c : Str} {C : Addr} (hm : mg c = some (.ref C)) (hx : PySem.W.excIn K C [.type "ValueError", .type "Exception", .type "BaseException", .type "object"] "ValueError.__new__" = true) (hk : PySem.W.keepIn K (.ref C) = true)
    (hb : PySem.W.subIn K (.ref C) (.type "BaseException") = some true) (ht : PySem.W.typeIn K (.ref C) = some (.type "type")) : ExCls K mg c C := ⟨hm, hk, ⟨_, _, _, _, PySem.F.excBase_ValueError, hx⟩, hb, ht⟩
end Zd

set_option Elab.async false
set_option linter.all false
set_option maxRecDepth 100000
set_option maxHeartbeats 4000000
namespace Zd
open PySem PySem.Spec PyProof.Rows L2
/-- a tuple times one is that very tuple -/
theorem tuple_mul1 (l : Addr) (items : Array Value) (n : Nat) (sl : Array (Option Value)) (dd : Option Addr) (u : Tok) :
    Meets (Builtin.«tuple.__mul__» ⟨[.ref l, .int 1 u], []⟩) (fun _ R s => s.heap.get? l = some { cls := .type "tuple", dict := dd, data := .seq items n, slots := sl } ∧ R (.ok (.ret (Value.ref l))) s) :=
  .of_wp fun prog w A R s h => by
    obtain ⟨hp, g, d, tk, os⟩ := s
    obtain ⟨hl, h⟩ := h
    have f1 := AutoSeq1.idx_int
    have c0 : (decide ((1 : Int) < -(2 ^ 63)) || decide ((1 : Int) ≥ 2 ^ 63)) = false := by decide
    have c1 : (items.isEmpty || (1 : Int) == 1) = true := by simp
    wp_walk using wpAny_loadPart' hl
    repeat (first
      | (refine wpAny_ite_false (decide_eq_false (by rw [c0]; exact Bool.false_ne_true)) ?_; wp_walk using wpAny_loadPart' hl)
      | (refine wpAny_ite_true (decide_eq_true (by rw [c1])) ?_; wp_walk using wpAny_loadPart' hl))
    exact ⟨_, rfl, h⟩
def rRepT1 (K : PySem.W.Frag) : R2 := fun x y H Q => ∃ l xs, x = .ref l ∧ y = .int 1 ∧ SqT K H l xs ∧ Q (.ref l) H
theorem op_repT1 {X : Cx} : OpR X (binaryOp .Mult) (rRepT1 X.K) := by
  intro pins s σ H x y v u Q I rx ry h
  obtain ⟨l, xs, rfl, rfl, hT, q⟩ := h
  cases rx
  obtain ⟨t, rfl⟩ := ry
  obtain ⟨its, r, ⟨⟨cls, dd, data, sl⟩, ho, hc, n, hd⟩, hs⟩ := I.tuple hT
  simp only at hc hd
  subst hc hd
  refine wpAny_binaryOp_repeat_ref (T := "tuple") (U := "int") (by decide) ⟨_, ho, rfl⟩ (fun s' => typeIs_int s' 1 t) noFill_tuple_mul F.fills_int_mul F.slot_int_rmul repeat_tuple F.slot_int_index.lookup
    (call_meets F.slot_int_rmul (typeIs_int s 1 t) F.entry_int_rmul (F.args_int_rmul_2 _ _) (int_rmul_tuple 1 t l its.toArray n dd sl)
      ⟨ho, rfl, ⟨_, ho, rfl⟩, call_meets F.slot_tuple_mul ⟨_, ho, rfl⟩ F.entry_tuple_mul (F.args_tuple_mul_2 _ _) (tuple_mul1 l its.toArray n sl dd t) ⟨ho, ?_⟩⟩)
  exact ⟨.ref l, H, I, rfl, q⟩
/-- a tuple, several times -/
def fMulT1 : F2
  | .tuple as, .int k => if k = 1 then some (.tuple as) else none
  | _, _ => none
def fMulTk : F2
  | .tuple as, .int k => if as ≠ [] ∧ 2 ≤ k ∧ k ≤ 1000 ∧ as.length ≤ 1000 then some (.tuple (List.replicate k.toNat as).flatten) else none
  | _, _ => none
def fMulT : F2 := fun a b => (fMulT1 a b).or (fMulTk a b)
section
variable {K : PySem.W.Frag}
theorem r2_mulT1 : R2Ok K (rRepT1 K) fMulT1 := fun H ad xs μ x y a b c Q w m n e q => by
  unfold fMulT1 at e
  split at e
  · split at e
    · rename_i hk
      cases e
      subst hk
      have y1 := Mo.ly_tuple m
      obtain ⟨a1, v1, rfl, s1, l1⟩ := m.tuple
      exact ⟨a1, v1, rfl, n.int, s1, q.same w y1⟩
    · cases e
  · cases e
theorem r2_mulTk : R2Ok K (rRepT K) fMulTk := fun H ad xs μ x y a b c Q w m n e q => by
  unfold fMulTk at e
  split at e
  · split at e
    · rename_i as k hk
      cases e
      obtain ⟨a1, v1, rfl, s1, l1⟩ := m.tuple
      have n1 := LyAll.length l1
      refine ⟨a1, k, v1, rfl, n.int, s1, fun z => ?_, hk.2.1, hk.2.2.1, by rw [n1]; exact hk.2.2.2, fun p hp => q.mk_tup w (LyAll.rep l1 _) hp⟩
      subst z
      exact hk.1 (List.eq_nil_of_length_eq_zero n1.symm)
    · cases e
  · cases e
end
section
variable {X : Cx} {W : Wish} {a b : Expr} {ea eb : EvE} {pos : Pos}
theorem se_mulT (ha : SE X W a ea) (hb : SE X W b eb) : SE X W (.BinOp a .Mult b pos) (eOp2 fMulT ea eb) := se_op2 (OpR.or op_repT1 op_repT) (R2Ok.or r2_mulT1 r2_mulTk) ha hb
end
end Zd

set_option Elab.async false
set_option linter.all false
set_option maxRecDepth 100000
set_option maxHeartbeats 1000000
/-! By value: loops out of which the def may return. -/
namespace Zd
open PySem PySem.Spec PyProof.Rows L2
theorem loop_relR {g : List (Nat × Cell)} {T : Tg} {b : EvS} (P : Nat → Env → Store → Prop) (R : Nat → D → Env → Store → Prop) :
    ∀ (items : List D) (i : Nat) (env : Env) (μ : Store), P i env μ → (∀ j env μ, P j env μ → Held g μ) →
      (∀ j d env μ, items[j]? = some d → P (i + j) env μ → ∃ env1 env2 μ2, bindT T d env = some env1 ∧ (((b env1 μ = .ok ((.nx, env2), μ2) ∨ b env1 μ = .ok ((.ct, env2), μ2)) ∧ P (i + j + 1) env2 μ2) ∨ ∃ r, b env1 μ = .ok ((.rt r, env2), μ2) ∧ R (i + j) r env2 μ2)) →
      (∃ env' μ', loopD g T b items env μ = .ok ((.nx, env'), μ') ∧ P (i + items.length) env' μ') ∨ ∃ j r env' μ', j < i + items.length ∧ loopD g T b items env μ = .ok ((.rt r, env'), μ') ∧ R j r env' μ'
  | [], i, env, μ, h, hh, _ => .inl ⟨env, μ, by unfold loopD; rw [if_pos (hh _ _ _ h)], by simpa using h⟩
  | d :: ds, i, env, μ, h, hh, step => by
    obtain ⟨env1, env2, μ2, h1, h2⟩ := step 0 d env μ rfl h
    rcases h2 with ⟨h2, h3⟩ | ⟨r, h2, h3⟩
    · rcases loop_relR P R ds (i + 1) env2 μ2 h3 hh fun j d' env μ hj hp => by
        obtain ⟨e1, e2, m2, k1, k2⟩ := step (j + 1) d' env μ (by simpa using hj) (by rw [show i + (j + 1) = i + 1 + j from by omega]; exact hp)
        rw [show i + (j + 1) + 1 = i + 1 + j + 1 from by omega, show i + (j + 1) = i + 1 + j from by omega] at k2
        exact ⟨e1, e2, m2, k1, k2⟩ with ⟨env', μ', h4, h5⟩ | ⟨j, r, env', μ', h4, h5, h6⟩
      · refine .inl ⟨env', μ', ?_, by rw [List.length_cons, show i + (ds.length + 1) = i + 1 + ds.length from by omega]; exact h5⟩
        unfold loopD
        rw [if_pos (hh _ _ _ h), h1]
        rcases h2 with h2 | h2 <;> simp [h2, h4]
      · refine .inr ⟨j, r, env', μ', by rw [List.length_cons]; omega, ?_, h6⟩
        unfold loopD
        rw [if_pos (hh _ _ _ h), h1]
        rcases h2 with h2 | h2 <;> simp [h2, h5]
    · refine .inr ⟨i, r, env2, μ2, by rw [List.length_cons]; omega, ?_, h3⟩
      unfold loopD
      rw [if_pos (hh _ _ _ h), h1]
      simp [h2]
/-- a for loop, by what holds ahead of each turn; R: what holds when a turn returns -/
theorem for_relR {T : Tg} {b : EvS} {ei : EvI} {env : Env} {μ μ1 : Store} {items : List D} {g : List (Nat × Cell)} (P : Nat → Env → Store → Prop) (R : Nat → D → Env → Store → Prop) (hi : ei env μ = .ok ((items, g), μ1)) (h0 : P 0 env μ1) (hh : ∀ j env μ, P j env μ → Held g μ)
    (step : ∀ j d env μ, items[j]? = some d → P j env μ → ∃ env1 env2 μ2, bindT T d env = some env1 ∧ (((b env1 μ = .ok ((.nx, env2), μ2) ∨ b env1 μ = .ok ((.ct, env2), μ2)) ∧ P (j + 1) env2 μ2) ∨ ∃ r, b env1 μ = .ok ((.rt r, env2), μ2) ∧ R j r env2 μ2)) :
    (∃ env' μ', sFor T ei b env μ = .ok ((.nx, env'), μ') ∧ P items.length env' μ') ∨ ∃ j r env' μ', j < items.length ∧ sFor T ei b env μ = .ok ((.rt r, env'), μ') ∧ R j r env' μ' := by
  have e : sFor T ei b env μ = loopD g T b items env μ1 := by
    unfold sFor
    rw [hi]
    rfl
  rw [e]
  rcases loop_relR P R items 0 env μ1 h0 hh (fun j d env μ hj hp => by
    rw [Nat.zero_add] at hp ⊢
    exact step j d env μ hj hp) with ⟨env', μ', h1, h2⟩ | ⟨j, r, env', μ', h1, h2, h3⟩
  · exact .inl ⟨env', μ', h1, by simpa using h2⟩
  · exact .inr ⟨j, r, env', μ', by simpa using h1, h2, h3⟩
/-- a while loop likewise, m turns being left at most -/
theorem while_relR {t : EvT} {b : EvS} (P : Nat → Env → Store → Prop) (Q : Env → Store → Prop) (R : D → Env → Store → Prop)
    (step : ∀ m env μ, P m env μ → (∃ μ1, t env μ = .ok (false, μ1) ∧ Q env μ1) ∨ ∃ μ1 env2 μ2, t env μ = .ok (true, μ1) ∧ ((∃ m', (b env μ1 = .ok ((.nx, env2), μ2) ∨ b env μ1 = .ok ((.ct, env2), μ2)) ∧ m' < m ∧ P m' env2 μ2) ∨ ∃ r, b env μ1 = .ok ((.rt r, env2), μ2) ∧ R r env2 μ2)) :
    ∀ m env μ, P m env μ → (∃ env' μ', sWhile t b env μ = .ok ((.nx, env'), μ') ∧ Q env' μ') ∨ ∃ r env' μ', sWhile t b env μ = .ok ((.rt r, env'), μ') ∧ R r env' μ' := by
  have key : ∀ m env μ, P m env μ → (∃ env' μ', whileN t b (m + 1) env μ = .ok ((.nx, env'), μ') ∧ Q env' μ') ∨ ∃ r env' μ', whileN t b (m + 1) env μ = .ok ((.rt r, env'), μ') ∧ R r env' μ' := by
    intro m
    induction m using Nat.strongRecOn with
    | _ m ih =>
      intro env μ h
      rcases step m env μ h with ⟨μ1, h1, h2⟩ | ⟨μ1, env2, μ2, h1, ⟨m', h2, h3, h4⟩ | ⟨r, h2, h3⟩⟩
      · refine .inl ⟨env, μ1, ?_, h2⟩
        unfold whileN
        rw [h1]
        simp
      · have more : ∀ o, o ≠ .stuck → whileN t b (m' + 1) env2 μ2 = o → whileN t b (m + 1) env μ = o := fun o ho h5 => by
          have h7 : whileN t b m env2 μ2 = o := by
            obtain ⟨k, e⟩ := Nat.exists_eq_add_of_le (show m' + 1 ≤ m from h3)
            rw [e, whileN_more k (by rw [h5]; exact ho), h5]
          unfold whileN
          rw [h1]
          simp only [Out.ok_bind, if_true]
          rcases h2 with h2 | h2
          · rw [h2]
            simpa using h7
          · rw [h2]
            simpa using h7
        rcases ih m' h3 env2 μ2 h4 with ⟨env', μ', h5, h6⟩ | ⟨r, env', μ', h5, h6⟩
        · exact .inl ⟨env', μ', more _ (fun z => by cases z) h5, h6⟩
        · exact .inr ⟨r, env', μ', more _ (fun z => by cases z) h5, h6⟩
      · refine .inr ⟨r, env2, μ2, ?_, h3⟩
        unfold whileN
        rw [h1]
        simp [h2]
  intro m env μ h
  rcases key m env μ h with ⟨env', μ', h1, h2⟩ | ⟨r, env', μ', h1, h2⟩
  · exact .inl ⟨env', μ', sWhile_eq h1 (fun z => by cases z), h2⟩
  · exact .inr ⟨r, env', μ', sWhile_eq h1 (fun z => by cases z), h2⟩
end Zd

set_option Elab.async false
set_option linter.all false
set_option maxRecDepth 100000
set_option maxHeartbeats 4000000
namespace P55
open PySem PySem.Spec PyProof.Rows L2 Zd
abbrev ZEROd : PyData := .tuple [.int 0, .int 1]
abbrev ONEd : PyData := .tuple [.int 1, .int 1]
noncomputable def ev_fraction : EvS := (sCons (sIf (eTst (eOp2 fEq (eVar 1) (eC (.int 0)))) sStuck sNil) (sCons (sSet (.nm 2) (eIf (eTst (eOp2 fGt (eVar 1) (eC (.int 0)))) (eCall fGcd (aCons (eVar 0) (aCons (eVar 1) aNil))) (eNeg (eCall fGcd (aCons (eVar 0) (aCons (eVar 1) aNil)))))) (sRet (eTup (aCons (eDiv (eVar 0) (eVar 2)) (aCons (eDiv (eVar 1) (eVar 2)) aNil))))))
noncomputable def F_fraction : FnP := fnP 2 3 ev_fraction
noncomputable def ev_plus : EvS := (sRet (eCallP F_fraction (aCons (eAdd (eMul (eIx (eVar 0) (eC (.int 0))) (eIx (eVar 1) (eC (.int 1)))) (eMul (eIx (eVar 1) (eC (.int 0))) (eIx (eVar 0) (eC (.int 1))))) (aCons (eMul (eIx (eVar 0) (eC (.int 1))) (eIx (eVar 1) (eC (.int 1)))) aNil))))
noncomputable def F_plus : FnP := fnP 2 2 ev_plus
noncomputable def ev_less : EvS := (sRet (eCallP F_fraction (aCons (eSub (eMul (eIx (eVar 0) (eC (.int 0))) (eIx (eVar 1) (eC (.int 1)))) (eMul (eIx (eVar 1) (eC (.int 0))) (eIx (eVar 0) (eC (.int 1))))) (aCons (eMul (eIx (eVar 0) (eC (.int 1))) (eIx (eVar 1) (eC (.int 1)))) aNil))))
noncomputable def F_less : FnP := fnP 2 2 ev_less
noncomputable def ev_times : EvS := (sRet (eCallP F_fraction (aCons (eMul (eIx (eVar 0) (eC (.int 0))) (eIx (eVar 1) (eC (.int 0)))) (aCons (eMul (eIx (eVar 0) (eC (.int 1))) (eIx (eVar 1) (eC (.int 1)))) aNil))))
noncomputable def F_times : FnP := fnP 2 2 ev_times
noncomputable def ev_over : EvS := (sRet (eCallP F_fraction (aCons (eMul (eIx (eVar 0) (eC (.int 0))) (eIx (eVar 1) (eC (.int 1)))) (aCons (eMul (eIx (eVar 0) (eC (.int 1))) (eIx (eVar 1) (eC (.int 0)))) aNil))))
noncomputable def F_over : FnP := fnP 2 2 ev_over
noncomputable def ev_compare : EvS := (sCons (sSet (.nm 2) (eSub (eMul (eIx (eVar 0) (eC (.int 0))) (eIx (eVar 1) (eC (.int 1)))) (eMul (eIx (eVar 1) (eC (.int 0))) (eIx (eVar 0) (eC (.int 1)))))) (sRet (eSub (eCall fInt (aCons (eOp2 fGt (eVar 2) (eC (.int 0))) aNil)) (eCall fInt (aCons (eOp2 fLt (eVar 2) (eC (.int 0))) aNil)))))
noncomputable def F_compare : FnP := fnP 2 3 ev_compare
noncomputable def ev_factor_of : EvS := (sRet (eIx (eIx (eIx (eIx (eVar 0) (eVar 1)) (eC (.int 0))) (eC (.int 1))) (eVar 2)))
noncomputable def F_factor_of : FnP := fnP 3 3 ev_factor_of
noncomputable def ev_scale_beside : EvS := (sCons (sPar [.nm 4, .nm 5] (aCons (eCallP F_factor_of (aCons (eVar 0) (aCons (eVar 1) (aCons (eVar 2) aNil)))) (aCons (eCallP F_factor_of (aCons (eVar 0) (aCons (eVar 2) (aCons (eVar 1) aNil)))) aNil))) (sCons (sIf (eOrT (eTst (eOp2 fEq (eVar 5) (eC ZEROd))) (eTst (eOp2 fLe (eCallP F_compare (aCons (eCallP F_over (aCons (eVar 4) (aCons (eVar 5) aNil))) (aCons (eC ZEROd) aNil))) (eC (.int 0))))) (sRet (eC .none)) sNil) (sRet (eCallP F_times (aCons (eVar 3) (aCons (eCallP F_over (aCons (eVar 4) (aCons (eVar 5) aNil))) aNil))))))
noncomputable def F_scale_beside : FnP := fnP 4 6 ev_scale_beside
noncomputable def ev_scales_of : EvS := (sCons (sIf (eOrT (eTst (eCall fAny (aCons (eFrz (asF (eLcD [7] (.nm 7) (iTp (eVar 0)) tYesE (eOp2 fGt (eCall fLen (aCons (eVar 7) aNil)) (eC (.int 1)))))) aNil))) (eTst (eCall fAny (aCons (eFrz (asF (eLcD [8] (.nm 8) (iRg1 (eCall fLen (aCons (eVar 0) aNil))) tYesE (eOp2 fNe (eCallP F_factor_of (aCons (eVar 0) (aCons (eVar 8) (aCons (eVar 8) aNil)))) (eC ZEROd))))) aNil)))) (sRet (eC .none)) sNil) (sCons (sSet (.nm 1) eDicK) (sCons (sFor (.nm 2) (iRg1 (eCall fLen (aCons (eVar 0) aNil))) (sForget [2, 3, 4, 5, 6] (sCons (sSet (.nm 3) (eIf (eTst (eDIn (eVar 2) (eVar 1))) (eOwn (eLst aNil)) (eOwn (eLst (aCons (eVar 2) aNil))))) (sCons (sExp (eSetd (eVar 1) (eVar 2) (eC ONEd))) (sWhile (eTru (eVar 3)) (sForget [4, 5, 6] (sCons (sSet (.nm 4) (eMeth mPop (eVar 3) aNil)) (sFor (.nm 5) (iRg1 (eCall fLen (aCons (eVar 0) aNil))) (sForget [5, 6] (sIf (eTst (eOp2 fNe (eCallP F_factor_of (aCons (eVar 0) (aCons (eVar 4) (aCons (eVar 5) aNil)))) (eC ZEROd))) (sCons (sSet (.nm 6) (eCallP F_scale_beside (aCons (eVar 0) (aCons (eVar 4) (aCons (eVar 5) (aCons (eDGet (eVar 1) (eVar 4)) aNil)))))) (sCons (sIf (eOrT (eTst (eIsN (eVar 6))) (eTst (eOp2 fNe (eDGet2 (eVar 1) (eVar 5) (eVar 6)) (eVar 6)))) (sRet (eC .none)) sNil) (sIf (eTst (eDNotIn (eVar 5) (eVar 1))) (sCons (sDPutE (eVar 1) (eVar 5) (eVar 6)) (sExp (eMeth mAppend (eVar 3) (aCons (eVar 5) aNil)))) sNil))) (sIf (eTst (eOp2 fNe (eCallP F_factor_of (aCons (eVar 0) (aCons (eVar 5) (aCons (eVar 4) aNil)))) (eC ZEROd))) (sRet (eC .none)) sNil))))))))))) (sRet (eCall fTuple (aCons (eFrz (asF (eLcD [7] (.nm 7) (iRg1 (eCall fLen (aCons (eVar 0) aNil))) tYesE (eDGet (eVar 1) (eVar 7))))) aNil))))))
noncomputable def F_scales_of : FnP := fnP 1 9 ev_scales_of
noncomputable def ev_need_scales : EvS := (sCons (sSet (.nm 1) (eCallP F_scales_of (aCons (eVar 0) aNil))) (sCons (sIf (eTst (eIsN (eVar 1))) (sRaise "NotEven") sNil) (sRet (eVar 1))))
noncomputable def F_need_scales : FnX := fnX 1 2 ev_need_scales
noncomputable def ev_energy_rows : EvS := (sCons (sSet (.nm 1) (eOwn (eLst aNil))) (sCons (sFor (.tp [(.nm 2), (.nm 3)]) (iEn (eCallX F_need_scales (aCons (eVar 0) aNil))) (sForget [2, 3, 4] (sCons (sSet (.nm 4) (eOwn (asF (eLcD [5] (.nm 5) (iTp (eIx (eIx (eIx (eVar 0) (eVar 2)) (eC (.int 0))) (eC (.int 1)))) tYesE (eCallP F_less (aCons (eC ZEROd) (aCons (eCallP F_times (aCons (eVar 3) (aCons (eVar 5) aNil))) aNil))))))) (sCons (sSetIx (eVar 4) (eVar 2) (eVar 3)) (sExp (eAppL (eVar 1) (eVar 4))))))) (sRet (eVar 1))))
noncomputable def F_energy_rows : FnX := fnX 1 6 ev_energy_rows
noncomputable def ev_energy : EvS := (sCons (sSet (.nm 2) (eC ZEROd)) (sCons (sFor (.tp [(.nm 3), (.nm 4)]) (iZp (eCallX F_energy_rows (aCons (eVar 0) aNil)) (eVar 1)) (sForget [3, 4, 5, 6] (sFor (.tp [(.nm 5), (.nm 6)]) (iZp (eVar 3) (eVar 1)) (sForget [5, 6] (sSet (.nm 2) (eCallP F_plus (aCons (eVar 2) (aCons (eCallP F_times (aCons (eVar 5) (aCons (eCallP F_times (aCons (eVar 4) (aCons (eVar 6) aNil))) aNil))) aNil)))))))) (sRet (eVar 2))))
noncomputable def F_energy : FnX := fnX 2 7 ev_energy
noncomputable def ev_squares_until : EvS := (sCons (sPar [.nm 0, .nm 1] (aCons (eOwnL (eLcD [8] (.nm 8) (iLst (eVar 0)) tYesE (eOwn (eCallN gList (aCons (eVar 8) aNil))))) (aCons (eOwn (eLst aNil)) aNil))) (sCons (sFor (.nm 2) (iRg1 (eLenL (eVar 0))) (sForget [2, 3, 4, 5, 6, 7] (sCons (sSet (.nm 3) (eIx (eIx (eVar 0) (eVar 2)) (eVar 2))) (sCons (sIf (eTst (eOp2 fLe (eCallP F_compare (aCons (eVar 3) (aCons (eC ZEROd) aNil))) (eC (.int 0)))) (sRet (eFrz (eNew2 gAdd (eVar 1) (eFrz (eLst (aCons (eTup (aCons (eVar 3) (aCons (eTup aNil) aNil))) aNil)))))) sNil) (sCons (sSet (.nm 4) (eFrz (asF (eLcD [9] (.nm 9) (iLst (eFrz (eSlL (eIx (eVar 0) (eVar 2)) (oSome (eAdd (eVar 2) (eC (.int 1)))) oNone))) tYesE (eCallP F_over (aCons (eVar 9) (aCons (eVar 3) aNil))))))) (sCons (sExp (eMeth mAppend (eVar 1) (aCons (eTup (aCons (eVar 3) (aCons (eCall fTuple (aCons (eVar 4) aNil)) aNil))) aNil))) (sFor (.nm 5) (iRg2 (eAdd (eVar 2) (eC (.int 1))) (eLenL (eVar 0))) (sForget [5, 6, 7] (sCons (sSet (.nm 6) (eIx (eIx (eVar 0) (eVar 5)) (eVar 2))) (sFor (.nm 7) (iRg2 (eAdd (eVar 2) (eC (.int 1))) (eLenL (eVar 0))) (sForget [7] (sSetIx (eIx (eVar 0) (eVar 5)) (eVar 7) (eCallP F_less (aCons (eIx (eIx (eVar 0) (eVar 5)) (eVar 7)) (aCons (eCallP F_times (aCons (eVar 6) (aCons (eIx (eVar 4) (eSub (eSub (eVar 7) (eVar 2)) (eC (.int 1)))) aNil))) aNil))))))))))))))) (sRet (eVar 1))))
noncomputable def F_squares_until : FnP := fnP 1 10 ev_squares_until
noncomputable def ev_squares_of : EvS := (sCons (sSet (.nm 1) (eCallP F_squares_until (aCons (eCallX F_energy_rows (aCons (eVar 0) aNil)) aNil))) (sRet (eIf (eTst (eOp2 fGt (eCallP F_compare (aCons (eIx (eIx (eVar 1) (eNeg (eC (.int 1)))) (eC (.int 0))) (aCons (eC ZEROd) aNil))) (eC (.int 0)))) (eCall fTuple (aCons (eVar 1) aNil)) (eC .none))))
noncomputable def F_squares_of : FnX := fnX 1 2 ev_squares_of
noncomputable def ev_low_values : EvS := (sCons (sSet (.nm 1) (eCallP F_squares_until (aCons (eCallX F_energy_rows (aCons (eVar 0) aNil)) aNil))) (sCons (sIf (eTst (eOp2 fGt (eCallP F_compare (aCons (eIx (eIx (eVar 1) (eNeg (eC (.int 1)))) (eC (.int 0))) (aCons (eC ZEROd) aNil))) (eC (.int 0)))) (sRet (eC .none)) sNil) (sCons (sSet (.nm 2) (eOwn (eNew2 gMul (eFrz (eLst (aCons (eC ZEROd) aNil))) (eCall fLen (aCons (eVar 0) aNil))))) (sCons (sSet (.nm 3) (eSub (eCall fLen (aCons (eVar 1) aNil)) (eC (.int 1)))) (sCons (sSetIx (eVar 2) (eVar 3) (eC ONEd)) (sCons (sFor (.nm 4) (iRgD (eSub (eVar 3) (eC (.int 1))) (eNeg (eC (.int 1)))) (sForget [4, 5, 6] (sFor (.tp [(.nm 5), (.nm 6)]) (iZp (eIx (eIx (eVar 1) (eVar 4)) (eC (.int 1))) (eFrz (eSlL (eVar 2) (oSome (eAdd (eVar 4) (eC (.int 1)))) oNone))) (sForget [5, 6] (sSetIx (eVar 2) (eVar 4) (eCallP F_less (aCons (eIx (eVar 2) (eVar 4)) (aCons (eCallP F_times (aCons (eVar 5) (aCons (eVar 6) aNil))) aNil)))))))) (sRet (eCall fTuple (aCons (eVar 2) aNil)))))))))
noncomputable def F_low_values : FnX := fnX 1 7 ev_low_values
noncomputable def ev__law_bag : EvS := (sRet (eOwn (eLst (aCons (eC (.int 0)) (aCons (eC (.int 1234567891)) (aCons (eC (.int 0)) (aCons (eFrz (asF (eLcD [1] (.nm 1) (iLst (eFrz (eSlL (eVar 0) oNone (oSome (eC (.int 63)))))) tYesE (eCall fAbs (aCons (eVar 1) aNil))))) aNil)))))))
noncomputable def F__law_bag : FnS := fnL 1 2 ev__law_bag
noncomputable def ev__law_take : EvS := (sCons (sIf (eTst (eOp2 fEq (eIx (eVar 0) (eC (.int 0))) (eC (.int 0)))) (sCons (sSet (.nm 2) (eIx (eFrz (eNew2 gAdd (eFrz (eSlL (eIx (eVar 0) (eC (.int 3))) (oSome (eIx (eVar 0) (eC (.int 2)))) oNone)) (eFrz (eLst (aCons (eC (.int 0)) aNil))))) (eC (.int 0)))) (sCons (sAugIx (· + ·) (eVar 0) (eC (.int 2)) (eC (.int 1))) (sCons (sIf (eTst (eOp2 fGe (eVar 2) (ePow (eC (.int 10)) (eC (.int 18))))) (sSetIx (eVar 0) (eC (.int 0)) (eVar 2)) sNil) (sCons (sSet (.nm 3) (eAdd (eAdd (eMul (eIx (eVar 0) (eC (.int 1))) (eC (.int 48271))) (eMod (eCall fInt (aCons (eVar 2) aNil)) (eC (.int 2147483647)))) (eMul (eC (.int 7919)) (eIx (eVar 0) (eC (.int 2)))))) (sSetIx (eVar 0) (eC (.int 1)) (eMod (eCall fInt (aCons (eVar 3) aNil)) (eC (.int 2147483647)))))))) sNil) (sCons (sIf (eTst (eOp2 fGt (eIx (eVar 0) (eC (.int 0))) (eC (.int 0)))) (sCons (sSet (.nm 4) (eMod (eCall fInt (aCons (eIx (eVar 0) (eC (.int 0))) aNil)) (eVar 1))) (sCons (sSetIx (eVar 0) (eC (.int 0)) (eDiv (eCall fInt (aCons (eIx (eVar 0) (eC (.int 0))) aNil)) (eVar 1))) (sRet (eVar 4)))) sNil) (sCons (sSet (.nm 5) (eMod (eCall fInt (aCons (eMul (eAdd (eIx (eVar 0) (eC (.int 1))) (eC (.int 1))) (eC (.int 39373))) aNil)) (eC (.int 1000000007)))) (sCons (sSet (.nm 6) (eMod (eCall fInt (aCons (eMul (eMod (eCall fInt (aCons (eMul (eVar 5) (eVar 5)) aNil)) (eC (.int 998244353))) (eC (.int 30011))) aNil)) (eC (.int 998244353)))) (sRet (eMod (eCall fInt (aCons (eDiv (eVar 6) (eC (.int 7))) aNil)) (eVar 1)))))))
noncomputable def F__law_take : FnS := fnS 2 7 ev__law_take
noncomputable def ev__law_some : EvS := (sRet (eIx (eVar 1) (eCallS F__law_take (aCons (eVar 0) (aCons (eCall fLen (aCons (eVar 1) aNil)) aNil)))))
noncomputable def F__law_some : FnS := fnS 2 2 ev__law_some
noncomputable def ev__law_mixed : EvS := (sCons (sSet (.nm 2) (eOwn (eLst aNil))) (sCons (sFor (.nm 3) (iLst (eVar 1)) (sForget [3] (sExp (eMeth mInsert (eVar 2) (aCons (eCallS F__law_take (aCons (eVar 0) (aCons (eAdd (eCall fLen (aCons (eVar 2) aNil)) (eC (.int 1))) aNil))) (aCons (eVar 3) aNil)))))) (sRet (eVar 2))))
noncomputable def F__law_mixed : FnS := fnS 2 4 ev__law_mixed
noncomputable def ev__law_alike : EvS := (sRet (eAndV (eOp2 fEq (eVar 0) (eVar 1)) (eOp2 fEq (eCall fRepr (aCons (eVar 0) aNil)) (eCall fRepr (aCons (eVar 1) aNil)))))
noncomputable def F__law_alike : FnP := fnP 2 2 ev__law_alike
noncomputable def ev__law_gcd : EvS := (sCons (sPar [.nm 0, .nm 1] (aCons (eCall fAbs (aCons (eVar 0) aNil)) (aCons (eCall fAbs (aCons (eVar 1) aNil)) aNil))) (sCons (sWhile (eTst (eOp2 fGt (eVar 1) (eC (.int 0)))) (sPar [.nm 0, .nm 1] (aCons (eVar 1) (aCons (eSub (eVar 0) (eMul (eDiv (eVar 0) (eVar 1)) (eVar 1))) aNil)))) (sRet (eVar 0))))
noncomputable def F__law_gcd : FnP := fnP 2 2 ev__law_gcd
noncomputable def ev__law_f : EvS := (sCons (sSet (.nm 2) (eMul (eCallP F__law_gcd (aCons (eVar 0) (aCons (eVar 1) aNil))) (eIf (eTst (eOp2 fGt (eVar 1) (eC (.int 0)))) (eC (.int 1)) (eNeg (eC (.int 1)))))) (sRet (eTup (aCons (eDiv (eVar 0) (eVar 2)) (aCons (eDiv (eVar 1) (eVar 2)) aNil)))))
noncomputable def F__law_f : FnP := fnP 2 3 ev__law_f
noncomputable def ev__law_plus : EvS := (sRet (eCallP F__law_f (aCons (eAdd (eMul (eIx (eVar 0) (eC (.int 0))) (eIx (eVar 1) (eC (.int 1)))) (eMul (eIx (eVar 1) (eC (.int 0))) (eIx (eVar 0) (eC (.int 1))))) (aCons (eMul (eIx (eVar 0) (eC (.int 1))) (eIx (eVar 1) (eC (.int 1)))) aNil))))
noncomputable def F__law_plus : FnP := fnP 2 2 ev__law_plus
noncomputable def ev__law_minus : EvS := (sRet (eCallP F__law_f (aCons (eSub (eMul (eIx (eVar 0) (eC (.int 0))) (eIx (eVar 1) (eC (.int 1)))) (eMul (eIx (eVar 1) (eC (.int 0))) (eIx (eVar 0) (eC (.int 1))))) (aCons (eMul (eIx (eVar 0) (eC (.int 1))) (eIx (eVar 1) (eC (.int 1)))) aNil))))
noncomputable def F__law_minus : FnP := fnP 2 2 ev__law_minus
noncomputable def ev__law_by : EvS := (sRet (eCallP F__law_f (aCons (eMul (eIx (eVar 0) (eC (.int 0))) (eIx (eVar 1) (eC (.int 0)))) (aCons (eMul (eIx (eVar 0) (eC (.int 1))) (eIx (eVar 1) (eC (.int 1)))) aNil))))
noncomputable def F__law_by : FnP := fnP 2 2 ev__law_by
noncomputable def ev__law_below : EvS := (sRet (eOp2 fLt (eMul (eIx (eVar 0) (eC (.int 0))) (eIx (eVar 1) (eC (.int 1)))) (eMul (eIx (eVar 1) (eC (.int 0))) (eIx (eVar 0) (eC (.int 1))))))
noncomputable def F__law_below : FnP := fnP 2 2 ev__law_below
noncomputable def ev__law_total : EvS := (sCons (sSet (.nm 1) (eTup (aCons (eC (.int 0)) (aCons (eC (.int 1)) aNil)))) (sCons (sFor (.nm 2) (iLst (eVar 0)) (sForget [2] (sSet (.nm 1) (eCallP F__law_plus (aCons (eVar 1) (aCons (eVar 2) aNil)))))) (sRet (eVar 1))))
noncomputable def F__law_total : FnP := fnP 1 3 ev__law_total
noncomputable def ev__law_value : EvS := (sRet (eCallP F__law_total (aCons (eFrz (eNew2 gAdd (eFrz (eLst (aCons (eIx (eVar 0) (eC (.int 0))) aNil))) (eFrz (asF (eLcD [2, 3] (.tp [(.nm 2), (.nm 3)]) (iZp (eIx (eVar 0) (eC (.int 1))) (eVar 1)) (eTst (eOp2 fNe (eIx (eVar 2) (eC (.int 0))) (eC (.int 0)))) (eCallP F__law_by (aCons (eVar 2) (aCons (eVar 3) aNil)))))))) aNil)))
noncomputable def F__law_value : FnP := fnP 2 4 ev__law_value
noncomputable def ev__law_some_fraction : EvS := (sCons (sSet (.nm 1) (eFrz (eLst (aCons (eTup (aCons (eC (.int 0)) (aCons (eC (.int 1)) aNil))) (aCons (eTup (aCons (eC (.int 1)) (aCons (eC (.int 1)) aNil))) (aCons (eTup (aCons (eNeg (eC (.int 1))) (aCons (eC (.int 1)) aNil))) (aCons (eTup (aCons (eC (.int 1)) (aCons (eC (.int 2)) aNil))) (aCons (eTup (aCons (eNeg (eC (.int 3))) (aCons (eC (.int 2)) aNil))) (aCons (eTup (aCons (eC (.int 2)) (aCons (eC (.int 1)) aNil))) (aCons (eTup (aCons (eC (.int 5)) (aCons (eC (.int 3)) aNil))) (aCons (eTup (aCons (eNeg (eC (.int 7))) (aCons (eC (.int 4)) aNil))) aNil))))))))))) (sRet (eCallS F__law_some (aCons (eVar 0) (aCons (eFrz (eNew2 gAdd (eVar 1) (eFrz (eLst (aCons (eTup (aCons (eSub (eCallS F__law_take (aCons (eVar 0) (aCons (eC (.int 199)) aNil))) (eC (.int 99))) (aCons (eC (.int 1)) aNil))) aNil))))) aNil)))))
noncomputable def F__law_some_fraction : FnS := fnS 1 2 ev__law_some_fraction
noncomputable def ev__law_shared_rule : EvS := (sCons (sSet (.nm 5) (eOwn (eNew2 gMul (eFrz (eLst (aCons (eC (.int 0)) aNil))) (eCall fLen (aCons (eVar 2) aNil))))) (sCons (sFor (.nm 6) (iLst (eVar 4)) (sForget [6] (sSetIx (eVar 5) (eVar 6) (eAdd (eC (.int 1)) (eCallS F__law_take (aCons (eVar 0) (aCons (eC (.int 3)) aNil))))))) (sCons (sPar [.nm 7, .nm 8] (aCons (eCall fSum (aCons (eVar 5) aNil)) (aCons (eOwn (eLst aNil)) aNil))) (sCons (sFor (.tp [(.nm 6), (.nm 9)]) (iEn (eVar 5)) (sForget [6, 9, 10] (sCons (sSet (.nm 10) (eCallP F__law_f (aCons (eMul (eMul (eIx (eVar 3) (eC (.int 0))) (eIx (eVar 2) (eVar 1))) (eVar 9)) (aCons (eMul (eMul (eIx (eVar 3) (eC (.int 1))) (eCall fMax2 (aCons (eVar 7) (aCons (eC (.int 1)) aNil)))) (eIx (eVar 2) (eVar 6))) aNil)))) (sExp (eMeth mAppend (eVar 8) (aCons (eCallP F__law_by (aCons (eVar 10) (aCons (eCallS F__law_some (aCons (eVar 0) (aCons (eFrz (eLst (aCons (eTup (aCons (eC (.int 1)) (aCons (eC (.int 1)) aNil))) (aCons (eTup (aCons (eC (.int 1)) (aCons (eC (.int 1)) aNil))) (aCons (eTup (aCons (eNeg (eC (.int 1))) (aCons (eC (.int 1)) aNil))) aNil))))) aNil))) aNil))) aNil)))))) (sRet (eTup (aCons (eCallS F__law_some_fraction (aCons (eVar 0) aNil)) (aCons (eCall fTuple (aCons (eVar 8) aNil)) aNil))))))))
noncomputable def F__law_shared_rule : FnS := fnS 5 11 ev__law_shared_rule
noncomputable def ev__law_some_cells : EvS := (sRet (eFrz (asF (eLcD [2] (.nm 2) (iRg1 (eVar 1)) (eTst (eOp2 fEq (eCallS F__law_take (aCons (eVar 0) (aCons (eC (.int 2)) aNil))) (eC (.int 0)))) (eVar 2)))))
noncomputable def F__law_some_cells : FnS := fnS 2 3 ev__law_some_cells
noncomputable def ev__law_light_book : EvS := (sCons (sSet (.nm 2) (eAdd (eC (.int 1)) (eCallS F__law_take (aCons (eVar 0) (aCons (eVar 1) aNil))))) (sCons (sPar [.nm 3, .nm 4] (aCons (eFrz (asF (eLcD [9] (.nm 9) (iRg1 (eVar 2)) tYesE (eAdd (eC (.int 1)) (eCallS F__law_take (aCons (eVar 0) (aCons (eC (.int 4)) aNil))))))) (aCons (eOwn (eLst aNil)) aNil))) (sCons (sFor (.nm 5) (iRg1 (eVar 2)) (sForget [5, 6, 7, 8] (sCons (sSet (.nm 6) (eOwn (eLst aNil))) (sCons (sFor (.nm 7) (iRg1 (eCallS F__law_some (aCons (eVar 0) (aCons (eFrz (eLst (aCons (eC (.int 1)) (aCons (eC (.int 2)) (aCons (eC (.int 1)) (aCons (eC (.int 3)) aNil)))))) aNil)))) (sForget [7, 8] (sCons (sSet (.nm 8) (eCallS F__law_some (aCons (eVar 0) (aCons (eFrz (eLst (aCons (eTup (aCons (eC (.int 1)) (aCons (eC (.int 2)) aNil))) (aCons (eTup (aCons (eC (.int 2)) (aCons (eC (.int 3)) aNil))) (aCons (eTup (aCons (eC (.int 9)) (aCons (eC (.int 10)) aNil))) (aCons (eTup (aCons (eC (.int 3)) (aCons (eC (.int 4)) aNil))) (aCons (eTup (aCons (eC (.int 99)) (aCons (eC (.int 100)) aNil))) (aCons (eTup (aCons (eC (.int 0)) (aCons (eC (.int 1)) aNil))) aNil)))))))) aNil)))) (sExp (eMeth mAppend (eVar 6) (aCons (eCallS F__law_shared_rule (aCons (eVar 0) (aCons (eVar 5) (aCons (eVar 3) (aCons (eVar 8) (aCons (eCallS F__law_some_cells (aCons (eVar 0) (aCons (eVar 2) aNil))) aNil)))))) aNil)))))) (sExp (eMeth mAppend (eVar 4) (aCons (eCall fTuple (aCons (eVar 6) aNil)) aNil))))))) (sRet (eTup (aCons (eCall fTuple (aCons (eVar 4) aNil)) (aCons (eCall fTuple (aCons (eFrz (asF (eLcD [10] (.nm 10) (iLst (eVar 3)) tYesE (eTup (aCons (eVar 10) (aCons (eC (.int 1)) aNil)))))) aNil)) aNil)))))))
noncomputable def F__law_light_book : FnS := fnS 2 11 ev__law_light_book
noncomputable def ev__law_heavy_book : EvS := (sCons (sSet (.nm 2) (eAdd (eC (.int 1)) (eCallS F__law_take (aCons (eVar 0) (aCons (eVar 1) aNil))))) (sCons (sSet (.nm 3) (eFrz (eCallN gSorted (aCons (eFrz (eSlL (eCallS F__law_mixed (aCons (eVar 0) (aCons (eFrz (eListR (eVar 2))) aNil))) oNone (oSome (eAdd (eC (.int 1)) (eCallS F__law_take (aCons (eVar 0) (aCons (eVar 2) aNil))))))) aNil)))) (sCons (sPar [(.nm 4), (.nm 5), (.nm 6)] (aCons (eFrz (asF (eLcD [15] (.nm 15) (iRg1 (eVar 2)) tYesE (eAdd (eC (.int 1)) (eCallS F__law_take (aCons (eVar 0) (aCons (eC (.int 4)) aNil))))))) (aCons (eOwn (eLst aNil)) (aCons (eOwn (eLst aNil)) aNil)))) (sCons (sSet (.nm 7) (eCallS F__law_mixed (aCons (eVar 0) (aCons (eVar 3) aNil)))) (sCons (sFor (.nm 8) (iRg1 (eVar 2)) (sForget [9, 10, 11, 12, 13, 14] (sCons (sSet (.nm 9) (eOwn (eLst aNil))) (sCons (sFor (.nm 10) (iRg1 (eCallS F__law_some (aCons (eVar 0) (aCons (eFrz (eLst (aCons (eC (.int 0)) (aCons (eC (.int 1)) (aCons (eC (.int 0)) (aCons (eC (.int 2)) aNil)))))) aNil)))) (sForget [10, 11] (sCons (sSet (.nm 11) (eCallS F__law_some (aCons (eVar 0) (aCons (eFrz (eLst (aCons (eTup (aCons (eC (.int 1)) (aCons (eC (.int 2)) aNil))) (aCons (eTup (aCons (eC (.int 2)) (aCons (eC (.int 3)) aNil))) (aCons (eTup (aCons (eC (.int 0)) (aCons (eC (.int 1)) aNil))) (aCons (eTup (aCons (eC (.int 9)) (aCons (eC (.int 10)) aNil))) aNil)))))) aNil)))) (sExp (eMeth mAppend (eVar 9) (aCons (eCallS F__law_shared_rule (aCons (eVar 0) (aCons (eVar 8) (aCons (eVar 4) (aCons (eVar 11) (aCons (eCallS F__law_some_cells (aCons (eVar 0) (aCons (eVar 2) aNil))) aNil)))))) aNil)))))) (sCons (sSet (.nm 11) (eCallS F__law_some (aCons (eVar 0) (aCons (eFrz (eLst (aCons (eTup (aCons (eC (.int 1)) (aCons (eC (.int 2)) aNil))) (aCons (eTup (aCons (eC (.int 0)) (aCons (eC (.int 1)) aNil))) aNil)))) aNil)))) (sCons (sSet (.nm 12) (eFrz (asF (eLcD [16] (.nm 16) (iRg1 (eVar 2)) (eAndT (eTst (eOp2 fNotIn (eVar 16) (eVar 3))) (eTst (eOp2 fEq (eCallS F__law_take (aCons (eVar 0) (aCons (eC (.int 2)) aNil))) (eC (.int 0))))) (eVar 16))))) (sCons (sIf (eTst (eOp2 fIn (eVar 8) (eVar 3))) (sCons (sSet (.nm 13) (eIx (eFrz (eNew2 gAdd (eVar 7) (eFrz (eSlL (eVar 7) oNone (oSome (eC (.int 1))))))) (eAdd (eIdx (eVar 7) (eVar 8)) (eC (.int 1))))) (sCons (sSet (.nm 11) (eCallS F__law_some (aCons (eVar 0) (aCons (eFrz (eLst (aCons (eTup (aCons (eC (.int 1)) (aCons (eC (.int 1)) aNil))) (aCons (eTup (aCons (eC (.int 1)) (aCons (eC (.int 1)) aNil))) (aCons (eTup (aCons (eC (.int 5)) (aCons (eC (.int 4)) aNil))) (aCons (eTup (aCons (eC (.int 2)) (aCons (eC (.int 1)) aNil))) aNil)))))) aNil)))) (sSet (.nm 12) (eFrz (eNew2 gAdd (eFrz (eLst (aCons (eVar 13) aNil))) (eFrz (asF (eLcD [16] (.nm 16) (iLst (eVar 3)) (eAndT (eTst (eOp2 fNe (eVar 16) (eVar 13))) (eTst (eOp2 fEq (eCallS F__law_take (aCons (eVar 0) (aCons (eC (.int 3)) aNil))) (eC (.int 0))))) (eVar 16))))))))) sNil) (sCons (sSet (.nm 14) (eCallS F__law_take (aCons (eVar 0) (aCons (eAdd (eCall fLen (aCons (eVar 9) aNil)) (eC (.int 1))) aNil)))) (sCons (sExp (eMeth mInsert (eVar 9) (aCons (eVar 14) (aCons (eCallS F__law_shared_rule (aCons (eVar 0) (aCons (eVar 8) (aCons (eVar 4) (aCons (eVar 11) (aCons (eVar 12) aNil)))))) aNil)))) (sCons (sExp (eMeth mAppend (eVar 6) (aCons (eVar 14) aNil))) (sExp (eMeth mAppend (eVar 5) (aCons (eCall fTuple (aCons (eVar 9) aNil)) aNil))))))))))))) (sRet (eTup (aCons (eCall fTuple (aCons (eVar 5) aNil)) (aCons (eTup (aCons (eCall fTuple (aCons (eVar 6) aNil)) (aCons (eCall fTuple (aCons (eVar 3) aNil)) (aCons (eCall fTuple (aCons (eFrz (asF (eLcD [8] (.nm 8) (iLst (eVar 3)) tYesE (eTup (aCons (eIx (eVar 4) (eVar 8)) (aCons (eC (.int 1)) aNil)))))) aNil)) aNil)))) aNil)))))))))
noncomputable def F__law_heavy_book : FnS := fnS 2 17 ev__law_heavy_book
noncomputable def ev__law_any_book : EvS := (sCons (sPar [.nm 2, .nm 3] (aCons (eAdd (eC (.int 1)) (eCallS F__law_take (aCons (eVar 0) (aCons (eVar 1) aNil)))) (aCons (eOwn (eLst aNil)) aNil))) (sCons (sSet (.nm 4) (eFrz (eLst (aCons (eTup (aCons (eC (.int 0)) (aCons (eC (.int 1)) aNil))) (aCons (eTup (aCons (eC (.int 0)) (aCons (eC (.int 1)) aNil))) (aCons (eTup (aCons (eC (.int 1)) (aCons (eC (.int 2)) aNil))) (aCons (eTup (aCons (eNeg (eC (.int 1))) (aCons (eC (.int 2)) aNil))) (aCons (eTup (aCons (eC (.int 1)) (aCons (eC (.int 3)) aNil))) (aCons (eTup (aCons (eC (.int 1)) (aCons (eC (.int 1)) aNil))) (aCons (eTup (aCons (eNeg (eC (.int 1))) (aCons (eC (.int 1)) aNil))) (aCons (eTup (aCons (eC (.int 2)) (aCons (eC (.int 3)) aNil))) (aCons (eTup (aCons (eNeg (eC (.int 3))) (aCons (eC (.int 5)) aNil))) (aCons (eTup (aCons (eC (.int 1)) (aCons (eC (.int 4)) aNil))) (aCons (eTup (aCons (eC (.int 0)) (aCons (eC (.int 1)) aNil))) aNil)))))))))))))) (sCons (sFor (.nm 5) (iRg1 (eVar 2)) (sForget [5, 6, 7] (sCons (sSet (.nm 6) (eOwn (eLst aNil))) (sCons (sFor (.nm 7) (iRg1 (eCallS F__law_some (aCons (eVar 0) (aCons (eFrz (eLst (aCons (eC (.int 1)) (aCons (eC (.int 2)) (aCons (eC (.int 1)) (aCons (eC (.int 3)) aNil)))))) aNil)))) (sForget [7] (sExp (eMeth mAppend (eVar 6) (aCons (eTup (aCons (eCallS F__law_some_fraction (aCons (eVar 0) aNil)) (aCons (eCall fTuple (aCons (eFrz (asF (eLcD [8] (.nm 8) (iRg1 (eVar 2)) tYesE (eCallS F__law_some (aCons (eVar 0) (aCons (eVar 4) aNil)))))) aNil)) aNil))) aNil))))) (sExp (eMeth mAppend (eVar 3) (aCons (eCall fTuple (aCons (eVar 6) aNil)) aNil))))))) (sRet (eCall fTuple (aCons (eVar 3) aNil))))))
noncomputable def F__law_any_book : FnS := fnS 2 9 ev__law_any_book
noncomputable def ev__law_book : EvS := (sCons (sSet (.nm 2) (eCallS F__law_take (aCons (eVar 0) (aCons (eC (.int 5)) aNil)))) (sCons (sIf (eTst (eOp2 fLt (eVar 2) (eC (.int 2)))) (sRet (eIx (eCallS F__law_light_book (aCons (eVar 0) (aCons (eVar 1) aNil))) (eC (.int 0)))) sNil) (sRet (eIf (eTst (eOp2 fLt (eVar 2) (eC (.int 4)))) (eIx (eCallS F__law_heavy_book (aCons (eVar 0) (aCons (eVar 1) aNil))) (eC (.int 0))) (eCallS F__law_any_book (aCons (eVar 0) (aCons (eVar 1) aNil)))))))
noncomputable def F__law_book : FnS := fnS 2 3 ev__law_book
noncomputable def ev__law_even_book : EvS := (sCons (sSet (.nm 2) (eAdd (eC (.int 1)) (eCallS F__law_take (aCons (eVar 0) (aCons (eVar 1) aNil))))) (sCons (sPar [(.nm 3), (.nm 4)] (aCons (eFrz (asF (eLcD [11] (.nm 11) (iRg1 (eVar 2)) tYesE (eAdd (eC (.int 1)) (eCallS F__law_take (aCons (eVar 0) (aCons (eC (.int 3)) aNil))))))) (aCons eDicT aNil))) (sCons (sSet (.nm 5) (eCallS F__law_some (aCons (eVar 0) (aCons (eFrz (eLst (aCons (eC (.int 2)) (aCons (eC (.int 1)) (aCons (eC (.int 3)) aNil))))) aNil)))) (sCons (sFor (.nm 6) (iRg1 (eVar 2)) (sForget [7] (sFor (.nm 7) (iRg1 (eVar 6)) (sForget [7] (sCons (sTPut (eVar 4) (aCons (eVar 6) (aCons (eVar 7) aNil)) (eCallS F__law_some (aCons (eVar 0) (aCons (eFrz (eLst (aCons (eC (.int 0)) (aCons (eC (.int 1)) (aCons (eNeg (eC (.int 1))) (aCons (eC (.int 2)) (aCons (eNeg (eC (.int 2))) (aCons (eC (.int 0)) aNil)))))))) aNil)))) (sTPut (eVar 4) (aCons (eVar 7) (aCons (eVar 6) aNil)) (eTGet (eVar 4) (aCons (eVar 6) (aCons (eVar 7) aNil))))))))) (sCons (sSet (.nm 8) (eOwn (eLst aNil))) (sCons (sFor (.nm 9) (iRg1 (eVar 2)) (sForget [9, 10] (sCons (sSet (.nm 10) (eFrz (asF (eLcD [6] (.nm 6) (iRg1 (eVar 2)) tYesE (eIf (eTst (eOp2 fEq (eVar 6) (eVar 9))) (eTup (aCons (eC (.int 0)) (aCons (eC (.int 1)) aNil))) (eCallP F__law_f (aCons (eTGet (eVar 4) (aCons (eVar 9) (aCons (eVar 6) aNil))) (aCons (eMul (eVar 5) (eIx (eVar 3) (eVar 9))) aNil)))))))) (sExp (eMeth mAppend (eVar 8) (aCons (eTup (aCons (eTup (aCons (eCallS F__law_some_fraction (aCons (eVar 0) aNil)) (aCons (eCall fTuple (aCons (eVar 10) aNil)) aNil))) aNil)) aNil)))))) (sRet (eTup (aCons (eCall fTuple (aCons (eVar 8) aNil)) (aCons (eCall fTuple (aCons (eVar 3) aNil)) aNil))))))))))
noncomputable def F__law_even_book : FnS := fnS 2 12 ev__law_even_book
noncomputable def ev__law_over : EvS := (sRet (eCallP F__law_f (aCons (eMul (eIx (eVar 0) (eC (.int 0))) (eIx (eVar 1) (eC (.int 1)))) (aCons (eMul (eIx (eVar 0) (eC (.int 1))) (eIx (eVar 1) (eC (.int 0)))) aNil))))
noncomputable def F__law_over : FnP := fnP 2 2 ev__law_over
noncomputable def ev__law_scales : EvS := (sCons (sIf (eTst (eOp2 fNe (eFrz (asF (eLcD [3, 8] (.tp [(.nm 3), (.nm 8)]) (iEn (eVar 0)) (eOrT (eTst (eOp2 fNe (eCall fLen (aCons (eVar 8) aNil)) (eC (.int 1)))) (eTst (eOp2 fNe (eIx (eIx (eIx (eIx (eVar 8) (eC (.int 0))) (eC (.int 1))) (eVar 3)) (eC (.int 0))) (eC (.int 0))))) (eVar 3)))) (eFrz (eLst aNil)))) (sRet (eC .none)) sNil) (sCons (sPar [(.nm 1), (.nm 2)] (aCons (eFrz (asF (eLcD [8] (.nm 8) (iTp (eVar 0)) tYesE (eIx (eIx (eVar 8) (eC (.int 0))) (eC (.int 1)))))) (aCons eDicK aNil))) (sCons (sFor (.nm 3) (iRg1 (eCall fLen (aCons (eVar 0) aNil))) (sForget [4, 5, 6, 7] (sCons (sSet (.nm 4) (eIf (eTst (eDNotIn (eVar 3) (eVar 2))) (eOwn (eLst (aCons (eVar 3) aNil))) (eOwn (eLst aNil)))) (sCons (sExp (eSetd (eVar 2) (eVar 3) (eTup (aCons (eC (.int 1)) (aCons (eC (.int 1)) aNil))))) (sWhile (eTst (eOp2 fNe (eVar 4) (eFrz (eLst aNil)))) (sForget [5, 6, 7] (sCons (sSet (.nm 5) (eMeth mPop (eVar 4) aNil)) (sFor (.nm 6) (iRg1 (eCall fLen (aCons (eVar 0) aNil))) (sForget [6, 7] (sCons (sIf (eAndT (eTst (eOp2 fEq (eIx (eIx (eIx (eVar 1) (eVar 5)) (eVar 6)) (eC (.int 0))) (eC (.int 0)))) (eTst (eOp2 fEq (eIx (eIx (eIx (eVar 1) (eVar 6)) (eVar 5)) (eC (.int 0))) (eC (.int 0))))) sCnt sNil) (sCons (sIf (eTst (eOp2 fLe (eMul (eIx (eIx (eIx (eVar 1) (eVar 5)) (eVar 6)) (eC (.int 0))) (eIx (eIx (eIx (eVar 1) (eVar 6)) (eVar 5)) (eC (.int 0)))) (eC (.int 0)))) (sRet (eC .none)) sNil) (sCons (sSet (.nm 7) (eCallP F__law_over (aCons (eCallP F__law_by (aCons (eIx (eIx (eVar 1) (eVar 5)) (eVar 6)) (aCons (eDGet (eVar 2) (eVar 5)) aNil))) (aCons (eIx (eIx (eVar 1) (eVar 6)) (eVar 5)) aNil)))) (sIf (eTst (eDNotIn (eVar 6) (eVar 2))) (sCons (sDPutE (eVar 2) (eVar 6) (eVar 7)) (sExp (eMeth mAppend (eVar 4) (aCons (eVar 6) aNil)))) (sIf (eTst (eOp2 fNe (eDGet (eVar 2) (eVar 6)) (eVar 7))) (sRet (eC .none)) sNil)))))))))))))) (sRet (eCall fTuple (aCons (eFrz (asF (eLcD [3] (.nm 3) (iRg1 (eCall fLen (aCons (eVar 0) aNil))) tYesE (eDGet (eVar 2) (eVar 3))))) aNil))))))
noncomputable def F__law_scales : FnP := fnP 1 9 ev__law_scales
noncomputable def ev__law_energy : EvS := (sCons (sSet (.nm 3) (eOwn (eLst aNil))) (sCons (sFor (.tp [(.nm 4), (.nm 5)]) (iEn (eVar 0)) (sForget [4, 5, 6] (sCons (sSet (.nm 6) (eCallP F__law_value (aCons (eTup (aCons (eTup (aCons (eC (.int 0)) (aCons (eC (.int 1)) aNil))) (aCons (eIx (eIx (eVar 5) (eC (.int 0))) (eC (.int 1))) aNil))) (aCons (eVar 2) aNil)))) (sExp (eMeth mAppend (eVar 3) (aCons (eCallP F__law_by (aCons (eCallP F__law_by (aCons (eIx (eVar 1) (eVar 4)) (aCons (eIx (eVar 2) (eVar 4)) aNil))) (aCons (eCallP F__law_minus (aCons (eIx (eVar 2) (eVar 4)) (aCons (eVar 6) aNil))) aNil))) aNil)))))) (sRet (eCallP F__law_total (aCons (eVar 3) aNil)))))
noncomputable def F__law_energy : FnP := fnP 3 7 ev__law_energy
noncomputable def ev__law_few_values : EvS := (sRet (eCall fTuple (aCons (eFrz (asF (eLcD [2] (.nm 2) (iRg1 (eVar 1)) tYesE (eCallS F__law_some (aCons (eVar 0) (aCons (eFrz (eLst (aCons (eTup (aCons (eC (.int 0)) (aCons (eC (.int 1)) aNil))) (aCons (eTup (aCons (eC (.int 1)) (aCons (eC (.int 1)) aNil))) (aCons (eTup (aCons (eNeg (eC (.int 1))) (aCons (eC (.int 1)) aNil))) (aCons (eTup (aCons (eC (.int 1)) (aCons (eC (.int 2)) aNil))) (aCons (eTup (aCons (eC (.int 3)) (aCons (eC (.int 1)) aNil))) (aCons (eTup (aCons (eNeg (eC (.int 5))) (aCons (eC (.int 2)) aNil))) aNil)))))))) aNil)))))) aNil)))
noncomputable def F__law_few_values : FnS := fnS 2 3 ev__law_few_values
noncomputable def ev__law_is_small : EvS := (sRet (eOp2 fEq (eFrz (asF (eLcD [1] (.nm 1) (iLst (eVar 0)) (eTst (eOp2 fNe (eFrz (asF (eLcD [2] (.nm 2) (iTp (eVar 1)) (eTst (eOp2 fGt (eIx (eVar 2) (eC (.int 1))) (eC (.int 10000)))) (eVar 2)))) (eFrz (eLst aNil)))) (eC (.int 1))))) (eFrz (eLst aNil))))
noncomputable def F__law_is_small : FnP := fnP 1 3 ev__law_is_small
noncomputable def ev__law_spoilt : EvS := (sCons (sPar [.nm 2, .nm 3] (aCons (eCallS F__law_take (aCons (eVar 0) (aCons (eCall fLen (aCons (eVar 1) aNil)) aNil))) (aCons (eCallS F__law_take (aCons (eVar 0) (aCons (eC (.int 4)) aNil))) aNil))) (sCons (sSet (.tp [(.nm 4), (.nm 5)]) (eIx (eIx (eVar 1) (eVar 2)) (eC (.int 0)))) (sCons (sSet (.nm 6) (eCallS F__law_take (aCons (eVar 0) (aCons (eCall fLen (aCons (eVar 1) aNil)) aNil)))) (sCons (sSet (.nm 7) (eAdd (eAdd (eSlT (eVar 5) oNone (oSome (eVar 6))) (eTup (aCons (eCallS F__law_some (aCons (eVar 0) (aCons (eFrz (eLst (aCons (eTup (aCons (eC (.int 1)) (aCons (eC (.int 2)) aNil))) (aCons (eTup (aCons (eNeg (eC (.int 1))) (aCons (eC (.int 3)) aNil))) (aCons (eTup (aCons (eC (.int 0)) (aCons (eC (.int 1)) aNil))) (aCons (eCallP F__law_by (aCons (eIx (eVar 5) (eVar 6)) (aCons (eTup (aCons (eNeg (eC (.int 1))) (aCons (eC (.int 1)) aNil))) aNil))) aNil)))))) aNil))) aNil))) (eSlT (eVar 5) (oSome (eAdd (eVar 6) (eC (.int 1)))) oNone))) (sCons (sSet (.nm 8) (eTup (aCons (eTup (aCons (eVar 4) (aCons (eVar 7) aNil))) aNil))) (sCons (sIf (eTst (eOp2 fEq (eVar 3) (eC (.int 0)))) (sSet (.nm 8) (eAdd (eIx (eVar 1) (eVar 2)) (eTup (aCons (eIx (eIx (eVar 1) (eVar 2)) (eC (.int 0))) aNil)))) sNil) (sCons (sIf (eTst (eOp2 fEq (eVar 3) (eC (.int 1)))) (sSet (.nm 8) (eTup (aCons (eTup (aCons (eCallS F__law_some_fraction (aCons (eVar 0) aNil)) (aCons (eVar 5) aNil))) aNil))) sNil) (sRet (eAdd (eAdd (eSlT (eVar 1) oNone (oSome (eVar 2))) (eTup (aCons (eVar 8) aNil))) (eSlT (eVar 1) (oSome (eAdd (eVar 2) (eC (.int 1)))) oNone))))))))))
noncomputable def F__law_spoilt : FnS := fnS 2 9 ev__law_spoilt
noncomputable def ev__law_is_energy_right : EvS := (sCons (sSet (.nm 3) (eCallS F__law_few_values (aCons (eVar 0) (aCons (eCall fLen (aCons (eVar 1) aNil)) aNil)))) (sCons (sFor (.nm 4) (iLst (eCallS F__law_mixed (aCons (eVar 0) (aCons (eFrz (eListR (eCall fLen (aCons (eVar 1) aNil)))) aNil)))) (sForget [4, 5, 6, 7, 8] (sCons (sSet (.nm 5) (eCallX F_energy (aCons (eVar 1) (aCons (eVar 3) aNil)))) (sCons (sIf (eNotT (eTst (eCallP F__law_alike (aCons (eVar 5) (aCons (eCallP F__law_energy (aCons (eVar 1) (aCons (eVar 2) (aCons (eVar 3) aNil)))) aNil))))) (sRet (eC (.bool false))) sNil) (sCons (sSet (.nm 6) (eAdd (eAdd (eSlT (eVar 3) oNone (oSome (eVar 4))) (eTup (aCons (eCallP F__law_value (aCons (eTup (aCons (eTup (aCons (eC (.int 0)) (aCons (eC (.int 1)) aNil))) (aCons (eIx (eIx (eIx (eVar 1) (eVar 4)) (eC (.int 0))) (eC (.int 1))) aNil))) (aCons (eVar 3) aNil))) aNil))) (eSlT (eVar 3) (oSome (eAdd (eVar 4) (eC (.int 1)))) oNone))) (sCons (sIf (eNotT (eTru (eCallP F__law_is_small (aCons (eFrz (eLst (aCons (eVar 6) aNil))) aNil)))) (sRet (eC (.bool true))) sNil) (sCons (sSet (.nm 7) (eCallX F_energy (aCons (eVar 1) (aCons (eVar 6) aNil)))) (sCons (sIf (eTru (eCallP F__law_below (aCons (eVar 5) (aCons (eVar 7) aNil)))) (sRet (eC (.bool false))) sNil) (sCons (sSet (.nm 8) (eAdd (eAdd (eSlT (eVar 6) oNone (oSome (eVar 4))) (eTup (aCons (eCallP F__law_plus (aCons (eIx (eVar 6) (eVar 4)) (aCons (eCallS F__law_some (aCons (eVar 0) (aCons (eFrz (eLst (aCons (eTup (aCons (eC (.int 1)) (aCons (eC (.int 7)) aNil))) (aCons (eTup (aCons (eNeg (eC (.int 1))) (aCons (eC (.int 3)) aNil))) (aCons (eTup (aCons (eC (.int 5)) (aCons (eC (.int 1)) aNil))) aNil))))) aNil))) aNil))) aNil))) (eSlT (eVar 6) (oSome (eAdd (eVar 4) (eC (.int 1)))) oNone))) (sCons (sIf (eAndT (eTru (eCallP F__law_is_small (aCons (eFrz (eLst (aCons (eVar 8) aNil))) aNil))) (eNotT (eTru (eCallP F__law_below (aCons (eVar 7) (aCons (eCallX F_energy (aCons (eVar 1) (aCons (eVar 8) aNil))) aNil)))))) (sRet (eC (.bool false))) sNil) (sCons (sSet (.nm 3) (eVar 6)) (sIf (eNotT (eTru (eCallP F__law_is_small (aCons (eFrz (eLst (aCons (eVar 3) aNil))) aNil)))) (sRet (eC (.bool true))) sNil)))))))))))) (sRet (eC (.bool true)))))
noncomputable def F__law_is_energy_right : FnS := fnS 3 9 ev__law_is_energy_right
noncomputable def ev_law (T : Addr) : EvS := (sCons (sSet (.nm 1) (eCallS F__law_bag (aCons (eVar 0) aNil))) (sCons (sFor (.nm 2) (iRg1 (eC (.int 5))) (sForget [2, 3, 4, 5, 6] (sCons (sSet (.nm 3) (eIx (eCallS F__law_even_book (aCons (eVar 1) (aCons (eC (.int 5)) aNil))) (eC (.int 0)))) (sCons (sIf (eTst (eOp2 fGt (eVar 2) (eC (.int 1)))) (sSet (.nm 3) (eIf (eTst (eOp2 fLt (eVar 2) (eC (.int 4)))) (eCallS F__law_spoilt (aCons (eVar 1) (aCons (eVar 3) aNil))) (eCallS F__law_book (aCons (eVar 1) (aCons (eC (.int 4)) aNil))))) sNil) (sCons (sPar [.nm 4, .nm 5] (aCons (eCallP F__law_scales (aCons (eVar 3) aNil)) (aCons (eCall fRepr (aCons (eVar 3) aNil)) aNil))) (sCons (sIf (eNotT (eTst (eCallP F__law_alike (aCons (eCallP F_scales_of (aCons (eVar 3) aNil)) (aCons (eVar 4) aNil))))) (sRet (eC (.bool false))) sNil) (sCons (sIf (eTst (eIsN (eVar 4))) (sCons (sSet (.nm 6) (eOwn (eLst (aCons (eTold T "law.<locals>.<lambda>" (fun c => if c = "NotEven" then some "not even" else none) "told" (eCallX F_energy (aCons (eVar 3) (aCons (eOp2 fMulT (eTup (aCons (eTup (aCons (eC (.int 0)) (aCons (eC (.int 1)) aNil))) aNil)) (eCall fLen (aCons (eVar 3) aNil))) aNil)))) aNil)))) (sCons (sExp (eMeth mAppend (eVar 6) (aCons (eTold T "law.<locals>.<lambda>" (fun c => if c = "NotEven" then some "not even" else none) "told" (eCallX F_squares_of (aCons (eVar 3) aNil))) aNil))) (sCons (sExp (eMeth mAppend (eVar 6) (aCons (eTold T "law.<locals>.<lambda>" (fun c => if c = "NotEven" then some "not even" else none) "told" (eCallX F_low_values (aCons (eVar 3) aNil))) aNil))) (sIf (eTst (eOp2 fNe (eVar 6) (eFrz (eNew2 gMul (eFrz (eLst (aCons (eTup (aCons (eC (.str "not even")) aNil)) aNil))) (eC (.int 3)))))) (sRet (eC (.bool false))) sNil)))) (sIf (eNotT (eTru (eCallS F__law_is_energy_right (aCons (eVar 1) (aCons (eVar 3) (aCons (eVar 4) aNil)))))) (sRet (eC (.bool false))) sNil)) (sIf (eTst (eOp2 fNe (eCall fRepr (aCons (eVar 3) aNil)) (eVar 5))) (sRet (eC (.bool false))) sNil)))))))) (sRet (eC (.bool true)))))
noncomputable def F_law (T : Addr) : FnS := fnL 1 7 (ev_law T)
end P55

set_option Elab.async false
set_option linter.all false
set_option maxRecDepth 100000
set_option maxHeartbeats 4000000
namespace P55
open PySem PySem.Spec PyProof.Rows L2 Zd
noncomputable def p_law_mixed_0 : EvS := (sSet (.nm 2) (eOwn (eLst aNil)))
noncomputable def p_law_mixed_1_b : EvS := (sExp (eMeth mInsert (eVar 2) (aCons (eCallS F__law_take (aCons (eVar 0) (aCons (eAdd (eCall fLen (aCons (eVar 2) aNil)) (eC (.int 1))) aNil))) (aCons (eVar 3) aNil))))
noncomputable def p_law_mixed_1_bx : EvS := (sForget [3] p_law_mixed_1_b)
noncomputable def p_law_mixed_1 : EvS := (sFor (.nm 3) (iLst (eVar 1)) p_law_mixed_1_bx)
noncomputable def p_law_mixed_2 : EvS := (sRet (eVar 2))
theorem parts_law_mixed : ev__law_mixed = (sCons p_law_mixed_0 (sCons p_law_mixed_1 p_law_mixed_2)) := by
  delta ev__law_mixed p_law_mixed_0 p_law_mixed_1_b p_law_mixed_1_bx p_law_mixed_1 p_law_mixed_2
  exact Eq.refl _
noncomputable def p_law_shared_rule_0 : EvS := (sSet (.nm 5) (eOwn (eNew2 gMul (eFrz (eLst (aCons (eC (.int 0)) aNil))) (eCall fLen (aCons (eVar 2) aNil)))))
noncomputable def p_law_shared_rule_1_b : EvS := (sSetIx (eVar 5) (eVar 6) (eAdd (eC (.int 1)) (eCallS F__law_take (aCons (eVar 0) (aCons (eC (.int 3)) aNil)))))
noncomputable def p_law_shared_rule_1_bx : EvS := (sForget [6] p_law_shared_rule_1_b)
noncomputable def p_law_shared_rule_1 : EvS := (sFor (.nm 6) (iLst (eVar 4)) p_law_shared_rule_1_bx)
noncomputable def p_law_shared_rule_2 : EvS := (sPar [.nm 7, .nm 8] (aCons (eCall fSum (aCons (eVar 5) aNil)) (aCons (eOwn (eLst aNil)) aNil)))
noncomputable def p_law_shared_rule_3_b_0 : EvS := (sSet (.nm 10) (eCallP F__law_f (aCons (eMul (eMul (eIx (eVar 3) (eC (.int 0))) (eIx (eVar 2) (eVar 1))) (eVar 9)) (aCons (eMul (eMul (eIx (eVar 3) (eC (.int 1))) (eCall fMax2 (aCons (eVar 7) (aCons (eC (.int 1)) aNil)))) (eIx (eVar 2) (eVar 6))) aNil))))
noncomputable def p_law_shared_rule_3_b_1 : EvS := (sExp (eMeth mAppend (eVar 8) (aCons (eCallP F__law_by (aCons (eVar 10) (aCons (eCallS F__law_some (aCons (eVar 0) (aCons (eFrz (eLst (aCons (eTup (aCons (eC (.int 1)) (aCons (eC (.int 1)) aNil))) (aCons (eTup (aCons (eC (.int 1)) (aCons (eC (.int 1)) aNil))) (aCons (eTup (aCons (eNeg (eC (.int 1))) (aCons (eC (.int 1)) aNil))) aNil))))) aNil))) aNil))) aNil)))
noncomputable def p_law_shared_rule_3_b : EvS := (sForget [6, 9, 10] (sCons p_law_shared_rule_3_b_0 p_law_shared_rule_3_b_1))
noncomputable def p_law_shared_rule_3 : EvS := (sFor (.tp [(.nm 6), (.nm 9)]) (iEn (eVar 5)) p_law_shared_rule_3_b)
noncomputable def p_law_shared_rule_4 : EvS := (sRet (eTup (aCons (eCallS F__law_some_fraction (aCons (eVar 0) aNil)) (aCons (eCall fTuple (aCons (eVar 8) aNil)) aNil))))
theorem parts_law_shared_rule : ev__law_shared_rule = (sCons p_law_shared_rule_0 (sCons p_law_shared_rule_1 (sCons p_law_shared_rule_2 (sCons p_law_shared_rule_3 p_law_shared_rule_4)))) := by
  delta ev__law_shared_rule p_law_shared_rule_0 p_law_shared_rule_1_b p_law_shared_rule_1_bx p_law_shared_rule_1 p_law_shared_rule_2 p_law_shared_rule_3_b_0 p_law_shared_rule_3_b_1 p_law_shared_rule_3_b p_law_shared_rule_3 p_law_shared_rule_4
  exact Eq.refl _
noncomputable def p_law_light_book_0 : EvS := (sSet (.nm 2) (eAdd (eC (.int 1)) (eCallS F__law_take (aCons (eVar 0) (aCons (eVar 1) aNil)))))
noncomputable def p_law_light_book_1 : EvS := (sPar [.nm 3, .nm 4] (aCons (eFrz (asF (eLcD [9] (.nm 9) (iRg1 (eVar 2)) tYesE (eAdd (eC (.int 1)) (eCallS F__law_take (aCons (eVar 0) (aCons (eC (.int 4)) aNil))))))) (aCons (eOwn (eLst aNil)) aNil)))
noncomputable def p_law_light_book_2_b_0 : EvS := (sSet (.nm 6) (eOwn (eLst aNil)))
noncomputable def p_law_light_book_2_b_1_b_0 : EvS := (sSet (.nm 8) (eCallS F__law_some (aCons (eVar 0) (aCons (eFrz (eLst (aCons (eTup (aCons (eC (.int 1)) (aCons (eC (.int 2)) aNil))) (aCons (eTup (aCons (eC (.int 2)) (aCons (eC (.int 3)) aNil))) (aCons (eTup (aCons (eC (.int 9)) (aCons (eC (.int 10)) aNil))) (aCons (eTup (aCons (eC (.int 3)) (aCons (eC (.int 4)) aNil))) (aCons (eTup (aCons (eC (.int 99)) (aCons (eC (.int 100)) aNil))) (aCons (eTup (aCons (eC (.int 0)) (aCons (eC (.int 1)) aNil))) aNil)))))))) aNil))))
noncomputable def p_law_light_book_2_b_1_b_1 : EvS := (sExp (eMeth mAppend (eVar 6) (aCons (eCallS F__law_shared_rule (aCons (eVar 0) (aCons (eVar 5) (aCons (eVar 3) (aCons (eVar 8) (aCons (eCallS F__law_some_cells (aCons (eVar 0) (aCons (eVar 2) aNil))) aNil)))))) aNil)))
noncomputable def p_law_light_book_2_b_1_b : EvS := (sForget [7, 8] (sCons p_law_light_book_2_b_1_b_0 p_law_light_book_2_b_1_b_1))
noncomputable def p_law_light_book_2_b_1 : EvS := (sFor (.nm 7) (iRg1 (eCallS F__law_some (aCons (eVar 0) (aCons (eFrz (eLst (aCons (eC (.int 1)) (aCons (eC (.int 2)) (aCons (eC (.int 1)) (aCons (eC (.int 3)) aNil)))))) aNil)))) p_law_light_book_2_b_1_b)
noncomputable def p_law_light_book_2_b_2 : EvS := (sExp (eMeth mAppend (eVar 4) (aCons (eCall fTuple (aCons (eVar 6) aNil)) aNil)))
noncomputable def p_law_light_book_2_b : EvS := (sForget [5, 6, 7, 8] (sCons p_law_light_book_2_b_0 (sCons p_law_light_book_2_b_1 p_law_light_book_2_b_2)))
noncomputable def p_law_light_book_2 : EvS := (sFor (.nm 5) (iRg1 (eVar 2)) p_law_light_book_2_b)
noncomputable def p_law_light_book_3 : EvS := (sRet (eTup (aCons (eCall fTuple (aCons (eVar 4) aNil)) (aCons (eCall fTuple (aCons (eFrz (asF (eLcD [10] (.nm 10) (iLst (eVar 3)) tYesE (eTup (aCons (eVar 10) (aCons (eC (.int 1)) aNil)))))) aNil)) aNil))))
theorem parts_law_light_book : ev__law_light_book = (sCons p_law_light_book_0 (sCons p_law_light_book_1 (sCons p_law_light_book_2 p_law_light_book_3))) := by
  delta ev__law_light_book p_law_light_book_0 p_law_light_book_1 p_law_light_book_2_b_0 p_law_light_book_2_b_1_b_0 p_law_light_book_2_b_1_b_1 p_law_light_book_2_b_1_b p_law_light_book_2_b_1 p_law_light_book_2_b_2 p_law_light_book_2_b p_law_light_book_2 p_law_light_book_3
  exact Eq.refl _
noncomputable def p_law_heavy_book_0 : EvS := (sSet (.nm 2) (eAdd (eC (.int 1)) (eCallS F__law_take (aCons (eVar 0) (aCons (eVar 1) aNil)))))
noncomputable def p_law_heavy_book_1 : EvS := (sSet (.nm 3) (eFrz (eCallN gSorted (aCons (eFrz (eSlL (eCallS F__law_mixed (aCons (eVar 0) (aCons (eFrz (eListR (eVar 2))) aNil))) oNone (oSome (eAdd (eC (.int 1)) (eCallS F__law_take (aCons (eVar 0) (aCons (eVar 2) aNil))))))) aNil))))
noncomputable def p_law_heavy_book_2 : EvS := (sPar [(.nm 4), (.nm 5), (.nm 6)] (aCons (eFrz (asF (eLcD [15] (.nm 15) (iRg1 (eVar 2)) tYesE (eAdd (eC (.int 1)) (eCallS F__law_take (aCons (eVar 0) (aCons (eC (.int 4)) aNil))))))) (aCons (eOwn (eLst aNil)) (aCons (eOwn (eLst aNil)) aNil))))
noncomputable def p_law_heavy_book_3 : EvS := (sSet (.nm 7) (eCallS F__law_mixed (aCons (eVar 0) (aCons (eVar 3) aNil))))
noncomputable def p_law_heavy_book_4_b_0 : EvS := (sSet (.nm 9) (eOwn (eLst aNil)))
noncomputable def p_law_heavy_book_4_b_1_b_0 : EvS := (sSet (.nm 11) (eCallS F__law_some (aCons (eVar 0) (aCons (eFrz (eLst (aCons (eTup (aCons (eC (.int 1)) (aCons (eC (.int 2)) aNil))) (aCons (eTup (aCons (eC (.int 2)) (aCons (eC (.int 3)) aNil))) (aCons (eTup (aCons (eC (.int 0)) (aCons (eC (.int 1)) aNil))) (aCons (eTup (aCons (eC (.int 9)) (aCons (eC (.int 10)) aNil))) aNil)))))) aNil))))
noncomputable def p_law_heavy_book_4_b_1_b_1 : EvS := (sExp (eMeth mAppend (eVar 9) (aCons (eCallS F__law_shared_rule (aCons (eVar 0) (aCons (eVar 8) (aCons (eVar 4) (aCons (eVar 11) (aCons (eCallS F__law_some_cells (aCons (eVar 0) (aCons (eVar 2) aNil))) aNil)))))) aNil)))
noncomputable def p_law_heavy_book_4_b_1_b : EvS := (sForget [10, 11] (sCons p_law_heavy_book_4_b_1_b_0 p_law_heavy_book_4_b_1_b_1))
noncomputable def p_law_heavy_book_4_b_1 : EvS := (sFor (.nm 10) (iRg1 (eCallS F__law_some (aCons (eVar 0) (aCons (eFrz (eLst (aCons (eC (.int 0)) (aCons (eC (.int 1)) (aCons (eC (.int 0)) (aCons (eC (.int 2)) aNil)))))) aNil)))) p_law_heavy_book_4_b_1_b)
noncomputable def p_law_heavy_book_4_b_2 : EvS := (sSet (.nm 11) (eCallS F__law_some (aCons (eVar 0) (aCons (eFrz (eLst (aCons (eTup (aCons (eC (.int 1)) (aCons (eC (.int 2)) aNil))) (aCons (eTup (aCons (eC (.int 0)) (aCons (eC (.int 1)) aNil))) aNil)))) aNil))))
noncomputable def p_law_heavy_book_4_b_3 : EvS := (sSet (.nm 12) (eFrz (asF (eLcD [16] (.nm 16) (iRg1 (eVar 2)) (eAndT (eTst (eOp2 fNotIn (eVar 16) (eVar 3))) (eTst (eOp2 fEq (eCallS F__law_take (aCons (eVar 0) (aCons (eC (.int 2)) aNil))) (eC (.int 0))))) (eVar 16)))))
noncomputable def p_law_heavy_book_4_b_4t_0 : EvS := (sSet (.nm 13) (eIx (eFrz (eNew2 gAdd (eVar 7) (eFrz (eSlL (eVar 7) oNone (oSome (eC (.int 1))))))) (eAdd (eIdx (eVar 7) (eVar 8)) (eC (.int 1)))))
noncomputable def p_law_heavy_book_4_b_4t_1 : EvS := (sSet (.nm 11) (eCallS F__law_some (aCons (eVar 0) (aCons (eFrz (eLst (aCons (eTup (aCons (eC (.int 1)) (aCons (eC (.int 1)) aNil))) (aCons (eTup (aCons (eC (.int 1)) (aCons (eC (.int 1)) aNil))) (aCons (eTup (aCons (eC (.int 5)) (aCons (eC (.int 4)) aNil))) (aCons (eTup (aCons (eC (.int 2)) (aCons (eC (.int 1)) aNil))) aNil)))))) aNil))))
noncomputable def p_law_heavy_book_4_b_4t_2 : EvS := (sSet (.nm 12) (eFrz (eNew2 gAdd (eFrz (eLst (aCons (eVar 13) aNil))) (eFrz (asF (eLcD [16] (.nm 16) (iLst (eVar 3)) (eAndT (eTst (eOp2 fNe (eVar 16) (eVar 13))) (eTst (eOp2 fEq (eCallS F__law_take (aCons (eVar 0) (aCons (eC (.int 3)) aNil))) (eC (.int 0))))) (eVar 16)))))))
noncomputable def p_law_heavy_book_4_b_4 : EvS := (sIf (eTst (eOp2 fIn (eVar 8) (eVar 3))) (sCons p_law_heavy_book_4_b_4t_0 (sCons p_law_heavy_book_4_b_4t_1 p_law_heavy_book_4_b_4t_2)) sNil)
noncomputable def p_law_heavy_book_4_b_5 : EvS := (sSet (.nm 14) (eCallS F__law_take (aCons (eVar 0) (aCons (eAdd (eCall fLen (aCons (eVar 9) aNil)) (eC (.int 1))) aNil))))
noncomputable def p_law_heavy_book_4_b_6 : EvS := (sExp (eMeth mInsert (eVar 9) (aCons (eVar 14) (aCons (eCallS F__law_shared_rule (aCons (eVar 0) (aCons (eVar 8) (aCons (eVar 4) (aCons (eVar 11) (aCons (eVar 12) aNil)))))) aNil))))
noncomputable def p_law_heavy_book_4_b_7 : EvS := (sExp (eMeth mAppend (eVar 6) (aCons (eVar 14) aNil)))
noncomputable def p_law_heavy_book_4_b_8 : EvS := (sExp (eMeth mAppend (eVar 5) (aCons (eCall fTuple (aCons (eVar 9) aNil)) aNil)))
noncomputable def p_law_heavy_book_4_b : EvS := (sForget [9, 10, 11, 12, 13, 14] (sCons p_law_heavy_book_4_b_0 (sCons p_law_heavy_book_4_b_1 (sCons p_law_heavy_book_4_b_2 (sCons p_law_heavy_book_4_b_3 (sCons p_law_heavy_book_4_b_4 (sCons p_law_heavy_book_4_b_5 (sCons p_law_heavy_book_4_b_6 (sCons p_law_heavy_book_4_b_7 p_law_heavy_book_4_b_8)))))))))
noncomputable def p_law_heavy_book_4 : EvS := (sFor (.nm 8) (iRg1 (eVar 2)) p_law_heavy_book_4_b)
noncomputable def p_law_heavy_book_5 : EvS := (sRet (eTup (aCons (eCall fTuple (aCons (eVar 5) aNil)) (aCons (eTup (aCons (eCall fTuple (aCons (eVar 6) aNil)) (aCons (eCall fTuple (aCons (eVar 3) aNil)) (aCons (eCall fTuple (aCons (eFrz (asF (eLcD [8] (.nm 8) (iLst (eVar 3)) tYesE (eTup (aCons (eIx (eVar 4) (eVar 8)) (aCons (eC (.int 1)) aNil)))))) aNil)) aNil)))) aNil))))
theorem parts_law_heavy_book : ev__law_heavy_book = (sCons p_law_heavy_book_0 (sCons p_law_heavy_book_1 (sCons p_law_heavy_book_2 (sCons p_law_heavy_book_3 (sCons p_law_heavy_book_4 p_law_heavy_book_5))))) := by
  delta ev__law_heavy_book p_law_heavy_book_0 p_law_heavy_book_1 p_law_heavy_book_2 p_law_heavy_book_3 p_law_heavy_book_4_b_0 p_law_heavy_book_4_b_1_b_0 p_law_heavy_book_4_b_1_b_1 p_law_heavy_book_4_b_1_b p_law_heavy_book_4_b_1 p_law_heavy_book_4_b_2 p_law_heavy_book_4_b_3 p_law_heavy_book_4_b_4t_0 p_law_heavy_book_4_b_4t_1 p_law_heavy_book_4_b_4t_2 p_law_heavy_book_4_b_4 p_law_heavy_book_4_b_5 p_law_heavy_book_4_b_6 p_law_heavy_book_4_b_7 p_law_heavy_book_4_b_8 p_law_heavy_book_4_b p_law_heavy_book_4 p_law_heavy_book_5
  exact Eq.refl _
noncomputable def p_law_any_book_0 : EvS := (sPar [.nm 2, .nm 3] (aCons (eAdd (eC (.int 1)) (eCallS F__law_take (aCons (eVar 0) (aCons (eVar 1) aNil)))) (aCons (eOwn (eLst aNil)) aNil)))
noncomputable def p_law_any_book_1 : EvS := (sSet (.nm 4) (eFrz (eLst (aCons (eTup (aCons (eC (.int 0)) (aCons (eC (.int 1)) aNil))) (aCons (eTup (aCons (eC (.int 0)) (aCons (eC (.int 1)) aNil))) (aCons (eTup (aCons (eC (.int 1)) (aCons (eC (.int 2)) aNil))) (aCons (eTup (aCons (eNeg (eC (.int 1))) (aCons (eC (.int 2)) aNil))) (aCons (eTup (aCons (eC (.int 1)) (aCons (eC (.int 3)) aNil))) (aCons (eTup (aCons (eC (.int 1)) (aCons (eC (.int 1)) aNil))) (aCons (eTup (aCons (eNeg (eC (.int 1))) (aCons (eC (.int 1)) aNil))) (aCons (eTup (aCons (eC (.int 2)) (aCons (eC (.int 3)) aNil))) (aCons (eTup (aCons (eNeg (eC (.int 3))) (aCons (eC (.int 5)) aNil))) (aCons (eTup (aCons (eC (.int 1)) (aCons (eC (.int 4)) aNil))) (aCons (eTup (aCons (eC (.int 0)) (aCons (eC (.int 1)) aNil))) aNil))))))))))))))
noncomputable def p_law_any_book_2_b_0 : EvS := (sSet (.nm 6) (eOwn (eLst aNil)))
noncomputable def p_law_any_book_2_b_1_b : EvS := (sExp (eMeth mAppend (eVar 6) (aCons (eTup (aCons (eCallS F__law_some_fraction (aCons (eVar 0) aNil)) (aCons (eCall fTuple (aCons (eFrz (asF (eLcD [8] (.nm 8) (iRg1 (eVar 2)) tYesE (eCallS F__law_some (aCons (eVar 0) (aCons (eVar 4) aNil)))))) aNil)) aNil))) aNil)))
noncomputable def p_law_any_book_2_b_1_bx : EvS := (sForget [7] p_law_any_book_2_b_1_b)
noncomputable def p_law_any_book_2_b_1 : EvS := (sFor (.nm 7) (iRg1 (eCallS F__law_some (aCons (eVar 0) (aCons (eFrz (eLst (aCons (eC (.int 1)) (aCons (eC (.int 2)) (aCons (eC (.int 1)) (aCons (eC (.int 3)) aNil)))))) aNil)))) p_law_any_book_2_b_1_bx)
noncomputable def p_law_any_book_2_b_2 : EvS := (sExp (eMeth mAppend (eVar 3) (aCons (eCall fTuple (aCons (eVar 6) aNil)) aNil)))
noncomputable def p_law_any_book_2_b : EvS := (sForget [5, 6, 7] (sCons p_law_any_book_2_b_0 (sCons p_law_any_book_2_b_1 p_law_any_book_2_b_2)))
noncomputable def p_law_any_book_2 : EvS := (sFor (.nm 5) (iRg1 (eVar 2)) p_law_any_book_2_b)
noncomputable def p_law_any_book_3 : EvS := (sRet (eCall fTuple (aCons (eVar 3) aNil)))
theorem parts_law_any_book : ev__law_any_book = (sCons p_law_any_book_0 (sCons p_law_any_book_1 (sCons p_law_any_book_2 p_law_any_book_3))) := by
  delta ev__law_any_book p_law_any_book_0 p_law_any_book_1 p_law_any_book_2_b_0 p_law_any_book_2_b_1_b p_law_any_book_2_b_1_bx p_law_any_book_2_b_1 p_law_any_book_2_b_2 p_law_any_book_2_b p_law_any_book_2 p_law_any_book_3
  exact Eq.refl _
noncomputable def p_law_book_0 : EvS := (sSet (.nm 2) (eCallS F__law_take (aCons (eVar 0) (aCons (eC (.int 5)) aNil))))
noncomputable def p_law_book_1t : EvS := (sRet (eIx (eCallS F__law_light_book (aCons (eVar 0) (aCons (eVar 1) aNil))) (eC (.int 0))))
noncomputable def p_law_book_1 : EvS := (sIf (eTst (eOp2 fLt (eVar 2) (eC (.int 2)))) p_law_book_1t sNil)
noncomputable def p_law_book_2 : EvS := (sRet (eIf (eTst (eOp2 fLt (eVar 2) (eC (.int 4)))) (eIx (eCallS F__law_heavy_book (aCons (eVar 0) (aCons (eVar 1) aNil))) (eC (.int 0))) (eCallS F__law_any_book (aCons (eVar 0) (aCons (eVar 1) aNil)))))
theorem parts_law_book : ev__law_book = (sCons p_law_book_0 (sCons p_law_book_1 p_law_book_2)) := by
  delta ev__law_book p_law_book_0 p_law_book_1t p_law_book_1 p_law_book_2
  exact Eq.refl _
noncomputable def p_law_even_book_0 : EvS := (sSet (.nm 2) (eAdd (eC (.int 1)) (eCallS F__law_take (aCons (eVar 0) (aCons (eVar 1) aNil)))))
noncomputable def p_law_even_book_1 : EvS := (sPar [(.nm 3), (.nm 4)] (aCons (eFrz (asF (eLcD [11] (.nm 11) (iRg1 (eVar 2)) tYesE (eAdd (eC (.int 1)) (eCallS F__law_take (aCons (eVar 0) (aCons (eC (.int 3)) aNil))))))) (aCons eDicT aNil)))
noncomputable def p_law_even_book_2 : EvS := (sSet (.nm 5) (eCallS F__law_some (aCons (eVar 0) (aCons (eFrz (eLst (aCons (eC (.int 2)) (aCons (eC (.int 1)) (aCons (eC (.int 3)) aNil))))) aNil))))
noncomputable def p_law_even_book_3_b_b_0 : EvS := (sTPut (eVar 4) (aCons (eVar 6) (aCons (eVar 7) aNil)) (eCallS F__law_some (aCons (eVar 0) (aCons (eFrz (eLst (aCons (eC (.int 0)) (aCons (eC (.int 1)) (aCons (eNeg (eC (.int 1))) (aCons (eC (.int 2)) (aCons (eNeg (eC (.int 2))) (aCons (eC (.int 0)) aNil)))))))) aNil))))
noncomputable def p_law_even_book_3_b_b_1 : EvS := (sTPut (eVar 4) (aCons (eVar 7) (aCons (eVar 6) aNil)) (eTGet (eVar 4) (aCons (eVar 6) (aCons (eVar 7) aNil))))
noncomputable def p_law_even_book_3_b_b : EvS := (sForget [7] (sCons p_law_even_book_3_b_b_0 p_law_even_book_3_b_b_1))
noncomputable def p_law_even_book_3_b : EvS := (sFor (.nm 7) (iRg1 (eVar 6)) p_law_even_book_3_b_b)
noncomputable def p_law_even_book_3_bx : EvS := (sForget [7] p_law_even_book_3_b)
noncomputable def p_law_even_book_3 : EvS := (sFor (.nm 6) (iRg1 (eVar 2)) p_law_even_book_3_bx)
noncomputable def p_law_even_book_4 : EvS := (sSet (.nm 8) (eOwn (eLst aNil)))
noncomputable def p_law_even_book_5_b_0 : EvS := (sSet (.nm 10) (eFrz (asF (eLcD [6] (.nm 6) (iRg1 (eVar 2)) tYesE (eIf (eTst (eOp2 fEq (eVar 6) (eVar 9))) (eTup (aCons (eC (.int 0)) (aCons (eC (.int 1)) aNil))) (eCallP F__law_f (aCons (eTGet (eVar 4) (aCons (eVar 9) (aCons (eVar 6) aNil))) (aCons (eMul (eVar 5) (eIx (eVar 3) (eVar 9))) aNil))))))))
noncomputable def p_law_even_book_5_b_1 : EvS := (sExp (eMeth mAppend (eVar 8) (aCons (eTup (aCons (eTup (aCons (eCallS F__law_some_fraction (aCons (eVar 0) aNil)) (aCons (eCall fTuple (aCons (eVar 10) aNil)) aNil))) aNil)) aNil)))
noncomputable def p_law_even_book_5_b : EvS := (sForget [9, 10] (sCons p_law_even_book_5_b_0 p_law_even_book_5_b_1))
noncomputable def p_law_even_book_5 : EvS := (sFor (.nm 9) (iRg1 (eVar 2)) p_law_even_book_5_b)
noncomputable def p_law_even_book_6 : EvS := (sRet (eTup (aCons (eCall fTuple (aCons (eVar 8) aNil)) (aCons (eCall fTuple (aCons (eVar 3) aNil)) aNil))))
theorem parts_law_even_book : ev__law_even_book = (sCons p_law_even_book_0 (sCons p_law_even_book_1 (sCons p_law_even_book_2 (sCons p_law_even_book_3 (sCons p_law_even_book_4 (sCons p_law_even_book_5 p_law_even_book_6)))))) := by
  delta ev__law_even_book p_law_even_book_0 p_law_even_book_1 p_law_even_book_2 p_law_even_book_3_b_b_0 p_law_even_book_3_b_b_1 p_law_even_book_3_b_b p_law_even_book_3_b p_law_even_book_3_bx p_law_even_book_3 p_law_even_book_4 p_law_even_book_5_b_0 p_law_even_book_5_b_1 p_law_even_book_5_b p_law_even_book_5 p_law_even_book_6
  exact Eq.refl _
noncomputable def p_law_spoilt_0 : EvS := (sPar [.nm 2, .nm 3] (aCons (eCallS F__law_take (aCons (eVar 0) (aCons (eCall fLen (aCons (eVar 1) aNil)) aNil))) (aCons (eCallS F__law_take (aCons (eVar 0) (aCons (eC (.int 4)) aNil))) aNil)))
noncomputable def p_law_spoilt_1 : EvS := (sSet (.tp [(.nm 4), (.nm 5)]) (eIx (eIx (eVar 1) (eVar 2)) (eC (.int 0))))
noncomputable def p_law_spoilt_2 : EvS := (sSet (.nm 6) (eCallS F__law_take (aCons (eVar 0) (aCons (eCall fLen (aCons (eVar 1) aNil)) aNil))))
noncomputable def p_law_spoilt_3 : EvS := (sSet (.nm 7) (eAdd (eAdd (eSlT (eVar 5) oNone (oSome (eVar 6))) (eTup (aCons (eCallS F__law_some (aCons (eVar 0) (aCons (eFrz (eLst (aCons (eTup (aCons (eC (.int 1)) (aCons (eC (.int 2)) aNil))) (aCons (eTup (aCons (eNeg (eC (.int 1))) (aCons (eC (.int 3)) aNil))) (aCons (eTup (aCons (eC (.int 0)) (aCons (eC (.int 1)) aNil))) (aCons (eCallP F__law_by (aCons (eIx (eVar 5) (eVar 6)) (aCons (eTup (aCons (eNeg (eC (.int 1))) (aCons (eC (.int 1)) aNil))) aNil))) aNil)))))) aNil))) aNil))) (eSlT (eVar 5) (oSome (eAdd (eVar 6) (eC (.int 1)))) oNone)))
noncomputable def p_law_spoilt_4 : EvS := (sSet (.nm 8) (eTup (aCons (eTup (aCons (eVar 4) (aCons (eVar 7) aNil))) aNil)))
noncomputable def p_law_spoilt_5t : EvS := (sSet (.nm 8) (eAdd (eIx (eVar 1) (eVar 2)) (eTup (aCons (eIx (eIx (eVar 1) (eVar 2)) (eC (.int 0))) aNil))))
noncomputable def p_law_spoilt_5 : EvS := (sIf (eTst (eOp2 fEq (eVar 3) (eC (.int 0)))) p_law_spoilt_5t sNil)
noncomputable def p_law_spoilt_6t : EvS := (sSet (.nm 8) (eTup (aCons (eTup (aCons (eCallS F__law_some_fraction (aCons (eVar 0) aNil)) (aCons (eVar 5) aNil))) aNil)))
noncomputable def p_law_spoilt_6 : EvS := (sIf (eTst (eOp2 fEq (eVar 3) (eC (.int 1)))) p_law_spoilt_6t sNil)
noncomputable def p_law_spoilt_7 : EvS := (sRet (eAdd (eAdd (eSlT (eVar 1) oNone (oSome (eVar 2))) (eTup (aCons (eVar 8) aNil))) (eSlT (eVar 1) (oSome (eAdd (eVar 2) (eC (.int 1)))) oNone)))
theorem parts_law_spoilt : ev__law_spoilt = (sCons p_law_spoilt_0 (sCons p_law_spoilt_1 (sCons p_law_spoilt_2 (sCons p_law_spoilt_3 (sCons p_law_spoilt_4 (sCons p_law_spoilt_5 (sCons p_law_spoilt_6 p_law_spoilt_7))))))) := by
  delta ev__law_spoilt p_law_spoilt_0 p_law_spoilt_1 p_law_spoilt_2 p_law_spoilt_3 p_law_spoilt_4 p_law_spoilt_5t p_law_spoilt_5 p_law_spoilt_6t p_law_spoilt_6 p_law_spoilt_7
  exact Eq.refl _
noncomputable def p_law_is_energy_right_0 : EvS := (sSet (.nm 3) (eCallS F__law_few_values (aCons (eVar 0) (aCons (eCall fLen (aCons (eVar 1) aNil)) aNil))))
noncomputable def p_law_is_energy_right_1_b_0 : EvS := (sSet (.nm 5) (eCallX F_energy (aCons (eVar 1) (aCons (eVar 3) aNil))))
noncomputable def p_law_is_energy_right_1_b_1t : EvS := (sRet (eC (.bool false)))
noncomputable def p_law_is_energy_right_1_b_1 : EvS := (sIf (eNotT (eTst (eCallP F__law_alike (aCons (eVar 5) (aCons (eCallP F__law_energy (aCons (eVar 1) (aCons (eVar 2) (aCons (eVar 3) aNil)))) aNil))))) p_law_is_energy_right_1_b_1t sNil)
noncomputable def p_law_is_energy_right_1_b_2 : EvS := (sSet (.nm 6) (eAdd (eAdd (eSlT (eVar 3) oNone (oSome (eVar 4))) (eTup (aCons (eCallP F__law_value (aCons (eTup (aCons (eTup (aCons (eC (.int 0)) (aCons (eC (.int 1)) aNil))) (aCons (eIx (eIx (eIx (eVar 1) (eVar 4)) (eC (.int 0))) (eC (.int 1))) aNil))) (aCons (eVar 3) aNil))) aNil))) (eSlT (eVar 3) (oSome (eAdd (eVar 4) (eC (.int 1)))) oNone)))
noncomputable def p_law_is_energy_right_1_b_3t : EvS := (sRet (eC (.bool true)))
noncomputable def p_law_is_energy_right_1_b_3 : EvS := (sIf (eNotT (eTru (eCallP F__law_is_small (aCons (eFrz (eLst (aCons (eVar 6) aNil))) aNil)))) p_law_is_energy_right_1_b_3t sNil)
noncomputable def p_law_is_energy_right_1_b_4 : EvS := (sSet (.nm 7) (eCallX F_energy (aCons (eVar 1) (aCons (eVar 6) aNil))))
noncomputable def p_law_is_energy_right_1_b_5t : EvS := (sRet (eC (.bool false)))
noncomputable def p_law_is_energy_right_1_b_5 : EvS := (sIf (eTru (eCallP F__law_below (aCons (eVar 5) (aCons (eVar 7) aNil)))) p_law_is_energy_right_1_b_5t sNil)
noncomputable def p_law_is_energy_right_1_b_6 : EvS := (sSet (.nm 8) (eAdd (eAdd (eSlT (eVar 6) oNone (oSome (eVar 4))) (eTup (aCons (eCallP F__law_plus (aCons (eIx (eVar 6) (eVar 4)) (aCons (eCallS F__law_some (aCons (eVar 0) (aCons (eFrz (eLst (aCons (eTup (aCons (eC (.int 1)) (aCons (eC (.int 7)) aNil))) (aCons (eTup (aCons (eNeg (eC (.int 1))) (aCons (eC (.int 3)) aNil))) (aCons (eTup (aCons (eC (.int 5)) (aCons (eC (.int 1)) aNil))) aNil))))) aNil))) aNil))) aNil))) (eSlT (eVar 6) (oSome (eAdd (eVar 4) (eC (.int 1)))) oNone)))
noncomputable def p_law_is_energy_right_1_b_7t : EvS := (sRet (eC (.bool false)))
noncomputable def p_law_is_energy_right_1_b_7 : EvS := (sIf (eAndT (eTru (eCallP F__law_is_small (aCons (eFrz (eLst (aCons (eVar 8) aNil))) aNil))) (eNotT (eTru (eCallP F__law_below (aCons (eVar 7) (aCons (eCallX F_energy (aCons (eVar 1) (aCons (eVar 8) aNil))) aNil)))))) p_law_is_energy_right_1_b_7t sNil)
noncomputable def p_law_is_energy_right_1_b_8 : EvS := (sSet (.nm 3) (eVar 6))
noncomputable def p_law_is_energy_right_1_b_9t : EvS := (sRet (eC (.bool true)))
noncomputable def p_law_is_energy_right_1_b_9 : EvS := (sIf (eNotT (eTru (eCallP F__law_is_small (aCons (eFrz (eLst (aCons (eVar 3) aNil))) aNil)))) p_law_is_energy_right_1_b_9t sNil)
noncomputable def p_law_is_energy_right_1_b : EvS := (sForget [4, 5, 6, 7, 8] (sCons p_law_is_energy_right_1_b_0 (sCons p_law_is_energy_right_1_b_1 (sCons p_law_is_energy_right_1_b_2 (sCons p_law_is_energy_right_1_b_3 (sCons p_law_is_energy_right_1_b_4 (sCons p_law_is_energy_right_1_b_5 (sCons p_law_is_energy_right_1_b_6 (sCons p_law_is_energy_right_1_b_7 (sCons p_law_is_energy_right_1_b_8 p_law_is_energy_right_1_b_9))))))))))
noncomputable def p_law_is_energy_right_1 : EvS := (sFor (.nm 4) (iLst (eCallS F__law_mixed (aCons (eVar 0) (aCons (eFrz (eListR (eCall fLen (aCons (eVar 1) aNil)))) aNil)))) p_law_is_energy_right_1_b)
noncomputable def p_law_is_energy_right_2 : EvS := (sRet (eC (.bool true)))
theorem parts_law_is_energy_right : ev__law_is_energy_right = (sCons p_law_is_energy_right_0 (sCons p_law_is_energy_right_1 p_law_is_energy_right_2)) := by
  delta ev__law_is_energy_right p_law_is_energy_right_0 p_law_is_energy_right_1_b_0 p_law_is_energy_right_1_b_1t p_law_is_energy_right_1_b_1 p_law_is_energy_right_1_b_2 p_law_is_energy_right_1_b_3t p_law_is_energy_right_1_b_3 p_law_is_energy_right_1_b_4 p_law_is_energy_right_1_b_5t p_law_is_energy_right_1_b_5 p_law_is_energy_right_1_b_6 p_law_is_energy_right_1_b_7t p_law_is_energy_right_1_b_7 p_law_is_energy_right_1_b_8 p_law_is_energy_right_1_b_9t p_law_is_energy_right_1_b_9 p_law_is_energy_right_1_b p_law_is_energy_right_1 p_law_is_energy_right_2
  exact Eq.refl _
noncomputable def p_scales_of_0t : EvS := (sRet (eC .none))
noncomputable def p_scales_of_0 : EvS := (sIf (eOrT (eTst (eCall fAny (aCons (eFrz (asF (eLcD [7] (.nm 7) (iTp (eVar 0)) tYesE (eOp2 fGt (eCall fLen (aCons (eVar 7) aNil)) (eC (.int 1)))))) aNil))) (eTst (eCall fAny (aCons (eFrz (asF (eLcD [8] (.nm 8) (iRg1 (eCall fLen (aCons (eVar 0) aNil))) tYesE (eOp2 fNe (eCallP F_factor_of (aCons (eVar 0) (aCons (eVar 8) (aCons (eVar 8) aNil)))) (eC ZEROd))))) aNil)))) p_scales_of_0t sNil)
noncomputable def p_scales_of_1 : EvS := (sSet (.nm 1) eDicK)
noncomputable def p_scales_of_2_b_0 : EvS := (sSet (.nm 3) (eIf (eTst (eDIn (eVar 2) (eVar 1))) (eOwn (eLst aNil)) (eOwn (eLst (aCons (eVar 2) aNil)))))
noncomputable def p_scales_of_2_b_1 : EvS := (sExp (eSetd (eVar 1) (eVar 2) (eC ONEd)))
noncomputable def p_scales_of_2_b_2_b_0 : EvS := (sSet (.nm 4) (eMeth mPop (eVar 3) aNil))
noncomputable def p_scales_of_2_b_2_b_1_bt_0 : EvS := (sSet (.nm 6) (eCallP F_scale_beside (aCons (eVar 0) (aCons (eVar 4) (aCons (eVar 5) (aCons (eDGet (eVar 1) (eVar 4)) aNil))))))
noncomputable def p_scales_of_2_b_2_b_1_bt_1t : EvS := (sRet (eC .none))
noncomputable def p_scales_of_2_b_2_b_1_bt_1 : EvS := (sIf (eOrT (eTst (eIsN (eVar 6))) (eTst (eOp2 fNe (eDGet2 (eVar 1) (eVar 5) (eVar 6)) (eVar 6)))) p_scales_of_2_b_2_b_1_bt_1t sNil)
noncomputable def p_scales_of_2_b_2_b_1_bt_2t_0 : EvS := (sDPutE (eVar 1) (eVar 5) (eVar 6))
noncomputable def p_scales_of_2_b_2_b_1_bt_2t_1 : EvS := (sExp (eMeth mAppend (eVar 3) (aCons (eVar 5) aNil)))
noncomputable def p_scales_of_2_b_2_b_1_bt_2 : EvS := (sIf (eTst (eDNotIn (eVar 5) (eVar 1))) (sCons p_scales_of_2_b_2_b_1_bt_2t_0 p_scales_of_2_b_2_b_1_bt_2t_1) sNil)
noncomputable def p_scales_of_2_b_2_b_1_bet : EvS := (sRet (eC .none))
noncomputable def p_scales_of_2_b_2_b_1_be : EvS := (sIf (eTst (eOp2 fNe (eCallP F_factor_of (aCons (eVar 0) (aCons (eVar 5) (aCons (eVar 4) aNil)))) (eC ZEROd))) p_scales_of_2_b_2_b_1_bet sNil)
noncomputable def p_scales_of_2_b_2_b_1_b : EvS := (sIf (eTst (eOp2 fNe (eCallP F_factor_of (aCons (eVar 0) (aCons (eVar 4) (aCons (eVar 5) aNil)))) (eC ZEROd))) (sCons p_scales_of_2_b_2_b_1_bt_0 (sCons p_scales_of_2_b_2_b_1_bt_1 p_scales_of_2_b_2_b_1_bt_2)) p_scales_of_2_b_2_b_1_be)
noncomputable def p_scales_of_2_b_2_b_1_bx : EvS := (sForget [5, 6] p_scales_of_2_b_2_b_1_b)
noncomputable def p_scales_of_2_b_2_b_1 : EvS := (sFor (.nm 5) (iRg1 (eCall fLen (aCons (eVar 0) aNil))) p_scales_of_2_b_2_b_1_bx)
noncomputable def p_scales_of_2_b_2_b : EvS := (sForget [4, 5, 6] (sCons p_scales_of_2_b_2_b_0 p_scales_of_2_b_2_b_1))
noncomputable def p_scales_of_2_b_2_c : EvT := (eTru (eVar 3))
noncomputable def p_scales_of_2_b_2 : EvS := (sWhile p_scales_of_2_b_2_c p_scales_of_2_b_2_b)
noncomputable def p_scales_of_2_b : EvS := (sForget [2, 3, 4, 5, 6] (sCons p_scales_of_2_b_0 (sCons p_scales_of_2_b_1 p_scales_of_2_b_2)))
noncomputable def p_scales_of_2 : EvS := (sFor (.nm 2) (iRg1 (eCall fLen (aCons (eVar 0) aNil))) p_scales_of_2_b)
noncomputable def p_scales_of_3 : EvS := (sRet (eCall fTuple (aCons (eFrz (asF (eLcD [7] (.nm 7) (iRg1 (eCall fLen (aCons (eVar 0) aNil))) tYesE (eDGet (eVar 1) (eVar 7))))) aNil)))
theorem parts_scales_of : ev_scales_of = (sCons p_scales_of_0 (sCons p_scales_of_1 (sCons p_scales_of_2 p_scales_of_3))) := by
  delta ev_scales_of p_scales_of_0t p_scales_of_0 p_scales_of_1 p_scales_of_2_b_0 p_scales_of_2_b_1 p_scales_of_2_b_2_b_0 p_scales_of_2_b_2_b_1_bt_0 p_scales_of_2_b_2_b_1_bt_1t p_scales_of_2_b_2_b_1_bt_1 p_scales_of_2_b_2_b_1_bt_2t_0 p_scales_of_2_b_2_b_1_bt_2t_1 p_scales_of_2_b_2_b_1_bt_2 p_scales_of_2_b_2_b_1_bet p_scales_of_2_b_2_b_1_be p_scales_of_2_b_2_b_1_b p_scales_of_2_b_2_b_1_bx p_scales_of_2_b_2_b_1 p_scales_of_2_b_2_b p_scales_of_2_b_2_c p_scales_of_2_b_2 p_scales_of_2_b p_scales_of_2 p_scales_of_3
  exact Eq.refl _
noncomputable def p_energy_rows_0 : EvS := (sSet (.nm 1) (eOwn (eLst aNil)))
noncomputable def p_energy_rows_1_b_0 : EvS := (sSet (.nm 4) (eOwn (asF (eLcD [5] (.nm 5) (iTp (eIx (eIx (eIx (eVar 0) (eVar 2)) (eC (.int 0))) (eC (.int 1)))) tYesE (eCallP F_less (aCons (eC ZEROd) (aCons (eCallP F_times (aCons (eVar 3) (aCons (eVar 5) aNil))) aNil)))))))
noncomputable def p_energy_rows_1_b_1 : EvS := (sSetIx (eVar 4) (eVar 2) (eVar 3))
noncomputable def p_energy_rows_1_b_2 : EvS := (sExp (eAppL (eVar 1) (eVar 4)))
noncomputable def p_energy_rows_1_b : EvS := (sForget [2, 3, 4] (sCons p_energy_rows_1_b_0 (sCons p_energy_rows_1_b_1 p_energy_rows_1_b_2)))
noncomputable def p_energy_rows_1 : EvS := (sFor (.tp [(.nm 2), (.nm 3)]) (iEn (eCallX F_need_scales (aCons (eVar 0) aNil))) p_energy_rows_1_b)
noncomputable def p_energy_rows_2 : EvS := (sRet (eVar 1))
theorem parts_energy_rows : ev_energy_rows = (sCons p_energy_rows_0 (sCons p_energy_rows_1 p_energy_rows_2)) := by
  delta ev_energy_rows p_energy_rows_0 p_energy_rows_1_b_0 p_energy_rows_1_b_1 p_energy_rows_1_b_2 p_energy_rows_1_b p_energy_rows_1 p_energy_rows_2
  exact Eq.refl _
noncomputable def p_energy_0 : EvS := (sSet (.nm 2) (eC ZEROd))
noncomputable def p_energy_1_b_b : EvS := (sSet (.nm 2) (eCallP F_plus (aCons (eVar 2) (aCons (eCallP F_times (aCons (eVar 5) (aCons (eCallP F_times (aCons (eVar 4) (aCons (eVar 6) aNil))) aNil))) aNil))))
noncomputable def p_energy_1_b_bx : EvS := (sForget [5, 6] p_energy_1_b_b)
noncomputable def p_energy_1_b : EvS := (sFor (.tp [(.nm 5), (.nm 6)]) (iZp (eVar 3) (eVar 1)) p_energy_1_b_bx)
noncomputable def p_energy_1_bx : EvS := (sForget [3, 4, 5, 6] p_energy_1_b)
noncomputable def p_energy_1 : EvS := (sFor (.tp [(.nm 3), (.nm 4)]) (iZp (eCallX F_energy_rows (aCons (eVar 0) aNil)) (eVar 1)) p_energy_1_bx)
noncomputable def p_energy_2 : EvS := (sRet (eVar 2))
theorem parts_energy : ev_energy = (sCons p_energy_0 (sCons p_energy_1 p_energy_2)) := by
  delta ev_energy p_energy_0 p_energy_1_b_b p_energy_1_b_bx p_energy_1_b p_energy_1_bx p_energy_1 p_energy_2
  exact Eq.refl _
noncomputable def p_law_scales_0t : EvS := (sRet (eC .none))
noncomputable def p_law_scales_0 : EvS := (sIf (eTst (eOp2 fNe (eFrz (asF (eLcD [3, 8] (.tp [(.nm 3), (.nm 8)]) (iEn (eVar 0)) (eOrT (eTst (eOp2 fNe (eCall fLen (aCons (eVar 8) aNil)) (eC (.int 1)))) (eTst (eOp2 fNe (eIx (eIx (eIx (eIx (eVar 8) (eC (.int 0))) (eC (.int 1))) (eVar 3)) (eC (.int 0))) (eC (.int 0))))) (eVar 3)))) (eFrz (eLst aNil)))) p_law_scales_0t sNil)
noncomputable def p_law_scales_1 : EvS := (sPar [(.nm 1), (.nm 2)] (aCons (eFrz (asF (eLcD [8] (.nm 8) (iTp (eVar 0)) tYesE (eIx (eIx (eVar 8) (eC (.int 0))) (eC (.int 1)))))) (aCons eDicK aNil)))
noncomputable def p_law_scales_2_b_0 : EvS := (sSet (.nm 4) (eIf (eTst (eDNotIn (eVar 3) (eVar 2))) (eOwn (eLst (aCons (eVar 3) aNil))) (eOwn (eLst aNil))))
noncomputable def p_law_scales_2_b_1 : EvS := (sExp (eSetd (eVar 2) (eVar 3) (eTup (aCons (eC (.int 1)) (aCons (eC (.int 1)) aNil)))))
noncomputable def p_law_scales_2_b_2_b_0 : EvS := (sSet (.nm 5) (eMeth mPop (eVar 4) aNil))
noncomputable def p_law_scales_2_b_2_b_1_b_0 : EvS := (sIf (eAndT (eTst (eOp2 fEq (eIx (eIx (eIx (eVar 1) (eVar 5)) (eVar 6)) (eC (.int 0))) (eC (.int 0)))) (eTst (eOp2 fEq (eIx (eIx (eIx (eVar 1) (eVar 6)) (eVar 5)) (eC (.int 0))) (eC (.int 0))))) sCnt sNil)
noncomputable def p_law_scales_2_b_2_b_1_b_1t : EvS := (sRet (eC .none))
noncomputable def p_law_scales_2_b_2_b_1_b_1 : EvS := (sIf (eTst (eOp2 fLe (eMul (eIx (eIx (eIx (eVar 1) (eVar 5)) (eVar 6)) (eC (.int 0))) (eIx (eIx (eIx (eVar 1) (eVar 6)) (eVar 5)) (eC (.int 0)))) (eC (.int 0)))) p_law_scales_2_b_2_b_1_b_1t sNil)
noncomputable def p_law_scales_2_b_2_b_1_b_2 : EvS := (sSet (.nm 7) (eCallP F__law_over (aCons (eCallP F__law_by (aCons (eIx (eIx (eVar 1) (eVar 5)) (eVar 6)) (aCons (eDGet (eVar 2) (eVar 5)) aNil))) (aCons (eIx (eIx (eVar 1) (eVar 6)) (eVar 5)) aNil))))
noncomputable def p_law_scales_2_b_2_b_1_b_3t_0 : EvS := (sDPutE (eVar 2) (eVar 6) (eVar 7))
noncomputable def p_law_scales_2_b_2_b_1_b_3t_1 : EvS := (sExp (eMeth mAppend (eVar 4) (aCons (eVar 6) aNil)))
noncomputable def p_law_scales_2_b_2_b_1_b_3et : EvS := (sRet (eC .none))
noncomputable def p_law_scales_2_b_2_b_1_b_3e : EvS := (sIf (eTst (eOp2 fNe (eDGet (eVar 2) (eVar 6)) (eVar 7))) p_law_scales_2_b_2_b_1_b_3et sNil)
noncomputable def p_law_scales_2_b_2_b_1_b_3 : EvS := (sIf (eTst (eDNotIn (eVar 6) (eVar 2))) (sCons p_law_scales_2_b_2_b_1_b_3t_0 p_law_scales_2_b_2_b_1_b_3t_1) p_law_scales_2_b_2_b_1_b_3e)
noncomputable def p_law_scales_2_b_2_b_1_b : EvS := (sForget [6, 7] (sCons p_law_scales_2_b_2_b_1_b_0 (sCons p_law_scales_2_b_2_b_1_b_1 (sCons p_law_scales_2_b_2_b_1_b_2 p_law_scales_2_b_2_b_1_b_3))))
noncomputable def p_law_scales_2_b_2_b_1 : EvS := (sFor (.nm 6) (iRg1 (eCall fLen (aCons (eVar 0) aNil))) p_law_scales_2_b_2_b_1_b)
noncomputable def p_law_scales_2_b_2_b : EvS := (sForget [5, 6, 7] (sCons p_law_scales_2_b_2_b_0 p_law_scales_2_b_2_b_1))
noncomputable def p_law_scales_2_b_2_c : EvT := (eTst (eOp2 fNe (eVar 4) (eFrz (eLst aNil))))
noncomputable def p_law_scales_2_b_2 : EvS := (sWhile p_law_scales_2_b_2_c p_law_scales_2_b_2_b)
noncomputable def p_law_scales_2_b : EvS := (sForget [4, 5, 6, 7] (sCons p_law_scales_2_b_0 (sCons p_law_scales_2_b_1 p_law_scales_2_b_2)))
noncomputable def p_law_scales_2 : EvS := (sFor (.nm 3) (iRg1 (eCall fLen (aCons (eVar 0) aNil))) p_law_scales_2_b)
noncomputable def p_law_scales_3 : EvS := (sRet (eCall fTuple (aCons (eFrz (asF (eLcD [3] (.nm 3) (iRg1 (eCall fLen (aCons (eVar 0) aNil))) tYesE (eDGet (eVar 2) (eVar 3))))) aNil)))
theorem parts_law_scales : ev__law_scales = (sCons p_law_scales_0 (sCons p_law_scales_1 (sCons p_law_scales_2 p_law_scales_3))) := by
  delta ev__law_scales p_law_scales_0t p_law_scales_0 p_law_scales_1 p_law_scales_2_b_0 p_law_scales_2_b_1 p_law_scales_2_b_2_b_0 p_law_scales_2_b_2_b_1_b_0 p_law_scales_2_b_2_b_1_b_1t p_law_scales_2_b_2_b_1_b_1 p_law_scales_2_b_2_b_1_b_2 p_law_scales_2_b_2_b_1_b_3t_0 p_law_scales_2_b_2_b_1_b_3t_1 p_law_scales_2_b_2_b_1_b_3et p_law_scales_2_b_2_b_1_b_3e p_law_scales_2_b_2_b_1_b_3 p_law_scales_2_b_2_b_1_b p_law_scales_2_b_2_b_1 p_law_scales_2_b_2_b p_law_scales_2_b_2_c p_law_scales_2_b_2 p_law_scales_2_b p_law_scales_2 p_law_scales_3
  exact Eq.refl _
noncomputable def p_law_energy_0 : EvS := (sSet (.nm 3) (eOwn (eLst aNil)))
noncomputable def p_law_energy_1_b_0 : EvS := (sSet (.nm 6) (eCallP F__law_value (aCons (eTup (aCons (eTup (aCons (eC (.int 0)) (aCons (eC (.int 1)) aNil))) (aCons (eIx (eIx (eVar 5) (eC (.int 0))) (eC (.int 1))) aNil))) (aCons (eVar 2) aNil))))
noncomputable def p_law_energy_1_b_1 : EvS := (sExp (eMeth mAppend (eVar 3) (aCons (eCallP F__law_by (aCons (eCallP F__law_by (aCons (eIx (eVar 1) (eVar 4)) (aCons (eIx (eVar 2) (eVar 4)) aNil))) (aCons (eCallP F__law_minus (aCons (eIx (eVar 2) (eVar 4)) (aCons (eVar 6) aNil))) aNil))) aNil)))
noncomputable def p_law_energy_1_b : EvS := (sForget [4, 5, 6] (sCons p_law_energy_1_b_0 p_law_energy_1_b_1))
noncomputable def p_law_energy_1 : EvS := (sFor (.tp [(.nm 4), (.nm 5)]) (iEn (eVar 0)) p_law_energy_1_b)
noncomputable def p_law_energy_2 : EvS := (sRet (eCallP F__law_total (aCons (eVar 3) aNil)))
theorem parts_law_energy : ev__law_energy = (sCons p_law_energy_0 (sCons p_law_energy_1 p_law_energy_2)) := by
  delta ev__law_energy p_law_energy_0 p_law_energy_1_b_0 p_law_energy_1_b_1 p_law_energy_1_b p_law_energy_1 p_law_energy_2
  exact Eq.refl _
noncomputable def p_law_total_0 : EvS := (sSet (.nm 1) (eTup (aCons (eC (.int 0)) (aCons (eC (.int 1)) aNil))))
noncomputable def p_law_total_1_b : EvS := (sSet (.nm 1) (eCallP F__law_plus (aCons (eVar 1) (aCons (eVar 2) aNil))))
noncomputable def p_law_total_1_bx : EvS := (sForget [2] p_law_total_1_b)
noncomputable def p_law_total_1 : EvS := (sFor (.nm 2) (iLst (eVar 0)) p_law_total_1_bx)
noncomputable def p_law_total_2 : EvS := (sRet (eVar 1))
theorem parts_law_total : ev__law_total = (sCons p_law_total_0 (sCons p_law_total_1 p_law_total_2)) := by
  delta ev__law_total p_law_total_0 p_law_total_1_b p_law_total_1_bx p_law_total_1 p_law_total_2
  exact Eq.refl _
noncomputable def p_law_value : EvS := (sRet (eCallP F__law_total (aCons (eFrz (eNew2 gAdd (eFrz (eLst (aCons (eIx (eVar 0) (eC (.int 0))) aNil))) (eFrz (asF (eLcD [2, 3] (.tp [(.nm 2), (.nm 3)]) (iZp (eIx (eVar 0) (eC (.int 1))) (eVar 1)) (eTst (eOp2 fNe (eIx (eVar 2) (eC (.int 0))) (eC (.int 0)))) (eCallP F__law_by (aCons (eVar 2) (aCons (eVar 3) aNil)))))))) aNil)))
theorem parts_law_value : ev__law_value = p_law_value := by
  delta ev__law_value p_law_value
  exact Eq.refl _
noncomputable def p_law_0 (T : Addr) : EvS := (sSet (.nm 1) (eCallS F__law_bag (aCons (eVar 0) aNil)))
noncomputable def p_law_1_b_0 (T : Addr) : EvS := (sSet (.nm 3) (eIx (eCallS F__law_even_book (aCons (eVar 1) (aCons (eC (.int 5)) aNil))) (eC (.int 0))))
noncomputable def p_law_1_b_1t (T : Addr) : EvS := (sSet (.nm 3) (eIf (eTst (eOp2 fLt (eVar 2) (eC (.int 4)))) (eCallS F__law_spoilt (aCons (eVar 1) (aCons (eVar 3) aNil))) (eCallS F__law_book (aCons (eVar 1) (aCons (eC (.int 4)) aNil)))))
noncomputable def p_law_1_b_1 (T : Addr) : EvS := (sIf (eTst (eOp2 fGt (eVar 2) (eC (.int 1)))) (p_law_1_b_1t T) sNil)
noncomputable def p_law_1_b_2 (T : Addr) : EvS := (sPar [.nm 4, .nm 5] (aCons (eCallP F__law_scales (aCons (eVar 3) aNil)) (aCons (eCall fRepr (aCons (eVar 3) aNil)) aNil)))
noncomputable def p_law_1_b_3t (T : Addr) : EvS := (sRet (eC (.bool false)))
noncomputable def p_law_1_b_3 (T : Addr) : EvS := (sIf (eNotT (eTst (eCallP F__law_alike (aCons (eCallP F_scales_of (aCons (eVar 3) aNil)) (aCons (eVar 4) aNil))))) (p_law_1_b_3t T) sNil)
noncomputable def p_law_1_b_4t_0 (T : Addr) : EvS := (sSet (.nm 6) (eOwn (eLst (aCons (eTold T "law.<locals>.<lambda>" (fun c => if c = "NotEven" then some "not even" else none) "told" (eCallX F_energy (aCons (eVar 3) (aCons (eOp2 fMulT (eTup (aCons (eTup (aCons (eC (.int 0)) (aCons (eC (.int 1)) aNil))) aNil)) (eCall fLen (aCons (eVar 3) aNil))) aNil)))) aNil))))
noncomputable def p_law_1_b_4t_1 (T : Addr) : EvS := (sExp (eMeth mAppend (eVar 6) (aCons (eTold T "law.<locals>.<lambda>" (fun c => if c = "NotEven" then some "not even" else none) "told" (eCallX F_squares_of (aCons (eVar 3) aNil))) aNil)))
noncomputable def p_law_1_b_4t_2 (T : Addr) : EvS := (sExp (eMeth mAppend (eVar 6) (aCons (eTold T "law.<locals>.<lambda>" (fun c => if c = "NotEven" then some "not even" else none) "told" (eCallX F_low_values (aCons (eVar 3) aNil))) aNil)))
noncomputable def p_law_1_b_4t_3t (T : Addr) : EvS := (sRet (eC (.bool false)))
noncomputable def p_law_1_b_4t_3 (T : Addr) : EvS := (sIf (eTst (eOp2 fNe (eVar 6) (eFrz (eNew2 gMul (eFrz (eLst (aCons (eTup (aCons (eC (.str "not even")) aNil)) aNil))) (eC (.int 3)))))) (p_law_1_b_4t_3t T) sNil)
noncomputable def p_law_1_b_4et (T : Addr) : EvS := (sRet (eC (.bool false)))
noncomputable def p_law_1_b_4e (T : Addr) : EvS := (sIf (eNotT (eTru (eCallS F__law_is_energy_right (aCons (eVar 1) (aCons (eVar 3) (aCons (eVar 4) aNil)))))) (p_law_1_b_4et T) sNil)
noncomputable def p_law_1_b_4 (T : Addr) : EvS := (sIf (eTst (eIsN (eVar 4))) (sCons (p_law_1_b_4t_0 T) (sCons (p_law_1_b_4t_1 T) (sCons (p_law_1_b_4t_2 T) (p_law_1_b_4t_3 T)))) (p_law_1_b_4e T))
noncomputable def p_law_1_b_5t (T : Addr) : EvS := (sRet (eC (.bool false)))
noncomputable def p_law_1_b_5 (T : Addr) : EvS := (sIf (eTst (eOp2 fNe (eCall fRepr (aCons (eVar 3) aNil)) (eVar 5))) (p_law_1_b_5t T) sNil)
noncomputable def p_law_1_b (T : Addr) : EvS := (sForget [2, 3, 4, 5, 6] (sCons (p_law_1_b_0 T) (sCons (p_law_1_b_1 T) (sCons (p_law_1_b_2 T) (sCons (p_law_1_b_3 T) (sCons (p_law_1_b_4 T) (p_law_1_b_5 T)))))))
noncomputable def p_law_1 (T : Addr) : EvS := (sFor (.nm 2) (iRg1 (eC (.int 5))) (p_law_1_b T))
noncomputable def p_law_2 (T : Addr) : EvS := (sRet (eC (.bool true)))
theorem parts_law (T : Addr) : ev_law T = (sCons (p_law_0 T) (sCons (p_law_1 T) (p_law_2 T))) := by
  delta ev_law p_law_0 p_law_1_b_0 p_law_1_b_1t p_law_1_b_1 p_law_1_b_2 p_law_1_b_3t p_law_1_b_3 p_law_1_b_4t_0 p_law_1_b_4t_1 p_law_1_b_4t_2 p_law_1_b_4t_3t p_law_1_b_4t_3 p_law_1_b_4et p_law_1_b_4e p_law_1_b_4 p_law_1_b_5t p_law_1_b_5 p_law_1_b p_law_1 p_law_2
  exact Eq.refl _
noncomputable def p_need_scales_0 : EvS := (sSet (.nm 1) (eCallP F_scales_of (aCons (eVar 0) aNil)))
noncomputable def p_need_scales_1t : EvS := (sRaise "NotEven")
noncomputable def p_need_scales_1 : EvS := (sIf (eTst (eIsN (eVar 1))) p_need_scales_1t sNil)
noncomputable def p_need_scales_2 : EvS := (sRet (eVar 1))
theorem parts_need_scales : ev_need_scales = (sCons p_need_scales_0 (sCons p_need_scales_1 p_need_scales_2)) := by
  delta ev_need_scales p_need_scales_0 p_need_scales_1t p_need_scales_1 p_need_scales_2
  exact Eq.refl _
noncomputable def p_law_is_small : EvS := (sRet (eOp2 fEq (eFrz (asF (eLcD [1] (.nm 1) (iLst (eVar 0)) (eTst (eOp2 fNe (eFrz (asF (eLcD [2] (.nm 2) (iTp (eVar 1)) (eTst (eOp2 fGt (eIx (eVar 2) (eC (.int 1))) (eC (.int 10000)))) (eVar 2)))) (eFrz (eLst aNil)))) (eC (.int 1))))) (eFrz (eLst aNil))))
theorem parts_law_is_small : ev__law_is_small = p_law_is_small := by
  delta ev__law_is_small p_law_is_small
  exact Eq.refl _
noncomputable def p_law_few_values : EvS := (sRet (eCall fTuple (aCons (eFrz (asF (eLcD [2] (.nm 2) (iRg1 (eVar 1)) tYesE (eCallS F__law_some (aCons (eVar 0) (aCons (eFrz (eLst (aCons (eTup (aCons (eC (.int 0)) (aCons (eC (.int 1)) aNil))) (aCons (eTup (aCons (eC (.int 1)) (aCons (eC (.int 1)) aNil))) (aCons (eTup (aCons (eNeg (eC (.int 1))) (aCons (eC (.int 1)) aNil))) (aCons (eTup (aCons (eC (.int 1)) (aCons (eC (.int 2)) aNil))) (aCons (eTup (aCons (eC (.int 3)) (aCons (eC (.int 1)) aNil))) (aCons (eTup (aCons (eNeg (eC (.int 5))) (aCons (eC (.int 2)) aNil))) aNil)))))))) aNil)))))) aNil)))
theorem parts_law_few_values : ev__law_few_values = p_law_few_values := by
  delta ev__law_few_values p_law_few_values
  exact Eq.refl _
noncomputable def p_squares_of_0 : EvS := (sSet (.nm 1) (eCallP F_squares_until (aCons (eCallX F_energy_rows (aCons (eVar 0) aNil)) aNil)))
noncomputable def p_squares_of_1 : EvS := (sRet (eIf (eTst (eOp2 fGt (eCallP F_compare (aCons (eIx (eIx (eVar 1) (eNeg (eC (.int 1)))) (eC (.int 0))) (aCons (eC ZEROd) aNil))) (eC (.int 0)))) (eCall fTuple (aCons (eVar 1) aNil)) (eC .none)))
theorem parts_squares_of : ev_squares_of = (sCons p_squares_of_0 p_squares_of_1) := by
  delta ev_squares_of p_squares_of_0 p_squares_of_1
  exact Eq.refl _
noncomputable def p_low_values_0 : EvS := (sSet (.nm 1) (eCallP F_squares_until (aCons (eCallX F_energy_rows (aCons (eVar 0) aNil)) aNil)))
noncomputable def p_low_values_1t : EvS := (sRet (eC .none))
noncomputable def p_low_values_1 : EvS := (sIf (eTst (eOp2 fGt (eCallP F_compare (aCons (eIx (eIx (eVar 1) (eNeg (eC (.int 1)))) (eC (.int 0))) (aCons (eC ZEROd) aNil))) (eC (.int 0)))) p_low_values_1t sNil)
noncomputable def p_low_values_2 : EvS := (sSet (.nm 2) (eOwn (eNew2 gMul (eFrz (eLst (aCons (eC ZEROd) aNil))) (eCall fLen (aCons (eVar 0) aNil)))))
noncomputable def p_low_values_3 : EvS := (sSet (.nm 3) (eSub (eCall fLen (aCons (eVar 1) aNil)) (eC (.int 1))))
noncomputable def p_low_values_4 : EvS := (sSetIx (eVar 2) (eVar 3) (eC ONEd))
noncomputable def p_low_values_5_b_b : EvS := (sSetIx (eVar 2) (eVar 4) (eCallP F_less (aCons (eIx (eVar 2) (eVar 4)) (aCons (eCallP F_times (aCons (eVar 5) (aCons (eVar 6) aNil))) aNil))))
noncomputable def p_low_values_5_b_bx : EvS := (sForget [5, 6] p_low_values_5_b_b)
noncomputable def p_low_values_5_b : EvS := (sFor (.tp [(.nm 5), (.nm 6)]) (iZp (eIx (eIx (eVar 1) (eVar 4)) (eC (.int 1))) (eFrz (eSlL (eVar 2) (oSome (eAdd (eVar 4) (eC (.int 1)))) oNone))) p_low_values_5_b_bx)
noncomputable def p_low_values_5_bx : EvS := (sForget [4, 5, 6] p_low_values_5_b)
noncomputable def p_low_values_5 : EvS := (sFor (.nm 4) (iRgD (eSub (eVar 3) (eC (.int 1))) (eNeg (eC (.int 1)))) p_low_values_5_bx)
noncomputable def p_low_values_6 : EvS := (sRet (eCall fTuple (aCons (eVar 2) aNil)))
theorem parts_low_values : ev_low_values = (sCons p_low_values_0 (sCons p_low_values_1 (sCons p_low_values_2 (sCons p_low_values_3 (sCons p_low_values_4 (sCons p_low_values_5 p_low_values_6)))))) := by
  delta ev_low_values p_low_values_0 p_low_values_1t p_low_values_1 p_low_values_2 p_low_values_3 p_low_values_4 p_low_values_5_b_b p_low_values_5_b_bx p_low_values_5_b p_low_values_5_bx p_low_values_5 p_low_values_6
  exact Eq.refl _
end P55

set_option Elab.async false
set_option linter.all false
set_option maxRecDepth 100000
set_option maxHeartbeats 4000000
/-! Fractions: what the program's and the law's own arithmetic answer. -/
namespace P55
open PySem PySem.Spec PyProof.Rows L2 Zd

def fr (q : Rat) : PyData := .tuple [.int q.num, .int (q.den : Int)]
/-- small enough for every step -/
def Sm (q : Rat) : Prop := q.num.natAbs < 2 ^ 4000 ∧ q.den < 2 ^ 4000
theorem log_lt {n k : Nat} (hk : 0 < k) (h : n < 2 ^ k) : n.log2 < k := by
  by_cases hn : n = 0
  · subst hn
    simpa using hk
  · exact (Nat.log2_lt hn).mpr h
theorem cmul {i j : Int} (h1 : i.natAbs < 2 ^ 9000) (h2 : j.natAbs < 2 ^ 9000) : CMulW i j := by
  have a := log_lt (by decide) h1
  have b := log_lt (by decide) h2
  unfold CMulW
  omega
theorem cdiv {i j : Int} (h0 : j ≠ 0) (h : j.natAbs < 2 ^ 9000) : CDivZ i j := ⟨h0, log_lt (by decide) h⟩
theorem divInt_frac (n d : Int) (hd : d ≠ 0) :
    (Rat.divInt n d).num = n.fdiv (if 0 < d then (Nat.gcd n.natAbs d.natAbs : Int) else -(Nat.gcd n.natAbs d.natAbs : Int)) ∧
    ((Rat.divInt n d).den : Int) = d.fdiv (if 0 < d then (Nat.gcd n.natAbs d.natAbs : Int) else -(Nat.gcd n.natAbs d.natAbs : Int)) := by
  rw [Rat.num_divInt, Rat.den_divInt, if_neg hd]
  have hg : Int.gcd d n = Nat.gcd n.natAbs d.natAbs := by rw [Int.gcd_comm]; rfl
  rw [hg]
  have g0 : (0 : Int) ≤ (Nat.gcd n.natAbs d.natAbs : Int) := Int.natCast_nonneg _
  by_cases h : 0 < d
  · rw [if_pos h, Int.fdiv_eq_ediv_of_nonneg _ g0, Int.fdiv_eq_ediv_of_nonneg _ g0, Int.sign_eq_one_of_pos h, Int.one_mul]
    refine ⟨rfl, ?_⟩
    rw [Int.natCast_ediv, Int.natAbs_of_nonneg (Int.le_of_lt h)]
  · have h' : d < 0 := by omega
    have e1 : ∀ z : Int, z.fdiv (-(Nat.gcd n.natAbs d.natAbs : Int)) = (-z).fdiv (Nat.gcd n.natAbs d.natAbs : Int) := fun z => by
      have := Int.neg_fdiv_neg (-z) (Nat.gcd n.natAbs d.natAbs : Int)
      rw [Int.neg_neg] at this
      exact this
    rw [if_neg h, e1, e1, Int.fdiv_eq_ediv_of_nonneg _ g0, Int.fdiv_eq_ediv_of_nonneg _ g0, Int.sign_eq_neg_one_of_neg h']
    refine ⟨by rw [Int.neg_one_mul], ?_⟩
    rw [Int.natCast_ediv]
    congr 1
    omega
theorem gcd_small {n d : Int} (hd : d ≠ 0) (h : d.natAbs < 2 ^ 9000) : (if 0 < d then (Nat.gcd n.natAbs d.natAbs : Int) else -(Nat.gcd n.natAbs d.natAbs : Int)) ≠ 0 ∧ (if 0 < d then (Nat.gcd n.natAbs d.natAbs : Int) else -(Nat.gcd n.natAbs d.natAbs : Int)).natAbs < 2 ^ 9000 := by
  have h0 : 0 < d.natAbs := by omega
  have h1 : Nat.gcd n.natAbs d.natAbs ≤ d.natAbs := Nat.gcd_le_right _ h0
  have h2 : 0 < Nat.gcd n.natAbs d.natAbs := Nat.gcd_pos_of_pos_right _ h0
  split
  · omega
  · omega
theorem F_fraction_ok {n d : Int} (hd : d ≠ 0) (h : d.natAbs < 2 ^ 9000) : F_fraction [.int n, .int d] = .ok (fr (Rat.divInt n d)) := by
  obtain ⟨g0, g1⟩ := gcd_small (n := n) hd h
  obtain ⟨e1, e2⟩ := divInt_frac n d hd
  unfold F_fraction fnP ev_fraction fr
  rw [e1, e2]
  by_cases hp : 0 < d
  · simp only [hp, if_true] at g0 g1 ⊢
    simp [hd, hp, bindT, cdiv g0 g1, frz, sizeLine_ge]
  · simp only [hp, if_false] at g0 g1 ⊢
    simp [hd, hp, bindT, cdiv g0 g1, frz, sizeLine_ge]

theorem Sm.num {q : Rat} (h : Sm q) : q.num.natAbs < 2 ^ 4000 := h.1
theorem Sm.den {q : Rat} (h : Sm q) : (q.den : Int).natAbs < 2 ^ 4000 := h.2
theorem small9 {i : Int} (h : i.natAbs < 2 ^ 4000) : i.natAbs < 2 ^ 9000 := Nat.lt_trans h (Nat.pow_lt_pow_right (by decide) (by decide))
theorem mul_small {i j : Int} (h1 : i.natAbs < 2 ^ 4000) (h2 : j.natAbs < 2 ^ 4000) : (i * j).natAbs < 2 ^ 8000 := by
  rw [Int.natAbs_mul, show (8000 : Nat) = 4000 + 4000 from rfl, Nat.pow_add]
  exact Nat.mul_lt_mul'' h1 h2
theorem mul_small9 {i j : Int} (h1 : i.natAbs < 2 ^ 4000) (h2 : j.natAbs < 2 ^ 4000) : (i * j).natAbs < 2 ^ 9000 := Nat.lt_trans (mul_small h1 h2) (Nat.pow_lt_pow_right (by decide) (by decide))
@[simp] theorem fr_0 (q : Rat) : fIx (fr q) (.int 0) = some (.int q.num) := by simp [fr]
@[simp] theorem fr_1 (q : Rat) : fIx (fr q) (.int 1) = some (.int (q.den : Int)) := by simp [fr]
@[simp] theorem noL_fr (q : Rat) : noL (fr q) = true := by simp [fr, noL, noLs]
theorem den_ne (q : Rat) : (q.den : Int) ≠ 0 := by have := q.den_nz; omega
theorem den_mul_ne (a b : Rat) : (a.den : Int) * (b.den : Int) ≠ 0 := Int.mul_ne_zero (den_ne a) (den_ne b)
theorem cm {i j : Int} (h1 : i.natAbs < 2 ^ 4000) (h2 : j.natAbs < 2 ^ 4000) : CMulW i j := cmul (small9 h1) (small9 h2)
theorem divInt_add (a b : Rat) : Rat.divInt (a.num * b.den + b.num * a.den) (a.den * b.den) = a + b := by
  rw [Rat.add_def', ← Int.natCast_mul, Rat.divInt_ofNat]
theorem divInt_sub (a b : Rat) : Rat.divInt (a.num * b.den - b.num * a.den) (a.den * b.den) = a - b := by
  rw [Rat.sub_def', ← Int.natCast_mul, Rat.divInt_ofNat]
theorem divInt_mul (a b : Rat) : Rat.divInt (a.num * b.num) (a.den * b.den) = a * b := by
  rw [Rat.mul_def', ← Int.natCast_mul, Rat.divInt_ofNat]
theorem divInt_div (a b : Rat) : Rat.divInt (a.num * b.den) (a.den * b.num) = a / b := by
  conv => rhs; rw [← Rat.num_divInt_den a, Rat.div_def, Rat.inv_def, Rat.divInt_mul_divInt]
theorem F_plus_ok {a b : Rat} (ha : Sm a) (hb : Sm b) : F_plus [fr a, fr b] = .ok (fr (a + b)) := by
  unfold F_plus fnP ev_plus
  simp [frz, cm ha.num hb.den, cm hb.num ha.den, cm ha.den hb.den, F_fraction_ok (den_mul_ne a b) (mul_small9 ha.den hb.den), divInt_add]
theorem F_less_ok {a b : Rat} (ha : Sm a) (hb : Sm b) : F_less [fr a, fr b] = .ok (fr (a - b)) := by
  unfold F_less fnP ev_less
  simp [frz, cm ha.num hb.den, cm hb.num ha.den, cm ha.den hb.den, F_fraction_ok (den_mul_ne a b) (mul_small9 ha.den hb.den), divInt_sub]
theorem F_times_ok {a b : Rat} (ha : Sm a) (hb : Sm b) : F_times [fr a, fr b] = .ok (fr (a * b)) := by
  unfold F_times fnP ev_times
  simp [frz, cm ha.num hb.num, cm ha.den hb.den, F_fraction_ok (den_mul_ne a b) (mul_small9 ha.den hb.den), divInt_mul]
theorem num_ne {b : Rat} (h : b ≠ 0) : b.num ≠ 0 := fun z => h (Rat.num_eq_zero.mp z)
theorem F_over_ok {a b : Rat} (ha : Sm a) (hb : Sm b) (h0 : b ≠ 0) : F_over [fr a, fr b] = .ok (fr (a / b)) := by
  unfold F_over fnP ev_over
  simp [frz, cm ha.num hb.den, cm ha.den hb.num, F_fraction_ok (Int.mul_ne_zero (den_ne a) (num_ne h0)) (mul_small9 ha.den hb.num), divInt_div]
/-- the sign of the difference -/
def sgn (a b : Rat) : Int := (if b < a then 1 else 0) - (if a < b then 1 else 0)
theorem lt_iff (a b : Rat) : a < b ↔ a.num * (b.den : Int) - b.num * (a.den : Int) < 0 := by
  rw [Rat.lt_iff]
  omega
theorem F_compare_ok {a b : Rat} (ha : Sm a) (hb : Sm b) : F_compare [fr a, fr b] = .ok (.int (sgn a b)) := by
  unfold F_compare fnP ev_compare
  have e1 : (b < a) = (0 < a.num * (b.den : Int) - b.num * (a.den : Int)) := by
    rw [Rat.lt_iff]
    exact propext (by omega)
  have e2 : (a < b) = (a.num * (b.den : Int) - b.num * (a.den : Int) < 0) := propext (lt_iff a b)
  simp [frz, bindT, cm ha.num hb.den, cm hb.num ha.den, sgn, e1, e2]

/-! ### the law's own -/
theorem gcd_loop {g : Nat} : ∀ m env μ, (∃ x y : Nat, env = [some (.pd (.int (x : Int))), some (.pd (.int (y : Int)))] ∧ μ = ([] : Store) ∧ m = y ∧ Nat.gcd x y = g ∧ x < 2 ^ 9000 ∧ y < 2 ^ 9000) →
    ∃ env' μ', sWhile (eTst (eOp2 fGt (eVar 1) (eC (.int 0)))) (sPar [.nm 0, .nm 1] (aCons (eVar 1) (aCons (eSub (eVar 0) (eMul (eDiv (eVar 0) (eVar 1)) (eVar 1))) aNil))) env μ = .ok ((.nx, env'), μ') ∧
      (μ' = [] ∧ ∃ d, env' = [some (.pd (.int (g : Int))), d]) := by
  refine while_rel _ _ fun y env μ h => ?_
  obtain ⟨x, _, rfl, rfl, rfl, hg, hx, hy⟩ := h
  by_cases h0 : y = 0
  · subst h0
    refine .inl ⟨[], by simp, rfl, some (.pd (.int 0)), ?_⟩
    rw [← hg, Nat.gcd_zero_right]
    rfl
  · have hp : (0 : Int) < (y : Int) := by omega
    have e1 : (x : Int).fdiv (y : Int) = ((x / y : Nat) : Int) := (Int.ofNat_fdiv x y).symm
    have q1 : x / y < 2 ^ 9000 := Nat.lt_of_le_of_lt (Nat.div_le_self x y) hx
    have c1 : CDivZ (x : Int) (y : Int) := cdiv (by omega) (by rw [Int.natAbs_natCast]; exact hy)
    have c2 : CMulW ((x / y : Nat) : Int) (y : Int) := cmul (by rw [Int.natAbs_natCast]; exact q1) (by rw [Int.natAbs_natCast]; exact hy)
    have e2 : (x : Int) - ((x / y : Nat) : Int) * (y : Int) = ((x % y : Nat) : Int) := by
      have h := Nat.div_add_mod x y
      have h2 : y * (x / y) = (x / y) * y := Nat.mul_comm _ _
      rw [← Int.natCast_mul]
      omega
    have e3 : Nat.gcd y (x % y) = g := by rw [← hg, Nat.gcd_comm x y, Nat.gcd_rec y x, Nat.gcd_comm]
    have lr : x % y < y := Nat.mod_lt _ (by omega)
    revert e1 q1 c2 e2 e3 lr
    generalize x / y = q
    generalize x % y = r
    intro e1 q1 c2 e2 e3 lr
    refine .inr ⟨[], [some (.pd (.int (y : Int))), some (.pd (.int (r : Int)))], [], r, by simp; omega, .inl ?_, lr, y, r, rfl, rfl, rfl, e3, hy, by omega⟩
    simp [bindTs, bindT, c1, e1, c2, e2]
theorem abs_eq (a : Int) : (if a < 0 then -a else a) = ((a.natAbs : Nat) : Int) := by
  split <;> omega
theorem F_gcd_ok {a b : Int} (ha : a.natAbs < 2 ^ 9000) (hb : b.natAbs < 2 ^ 9000) : F__law_gcd [.int a, .int b] = .ok (.int (Nat.gcd a.natAbs b.natAbs : Nat)) := by
  obtain ⟨env', μ', h1, rfl, d, rfl⟩ := gcd_loop (g := Nat.gcd a.natAbs b.natAbs) b.natAbs [some (.pd (.int (a.natAbs : Int))), some (.pd (.int (b.natAbs : Int)))] [] ⟨a.natAbs, b.natAbs, rfl, rfl, rfl, rfl, ha, hb⟩
  unfold F__law_gcd fnP ev__law_gcd
  simp [bindTs, bindT, abs_eq, frz, h1]
theorem F_f_ok {n d : Int} (hd : d ≠ 0) (hn : n.natAbs < 2 ^ 9000) (h : d.natAbs < 2 ^ 9000) : F__law_f [.int n, .int d] = .ok (fr (Rat.divInt n d)) := by
  obtain ⟨g0, g1⟩ := gcd_small (n := n) hd h
  obtain ⟨e1, e2⟩ := divInt_frac n d hd
  have hg : Nat.gcd n.natAbs d.natAbs < 2 ^ 9000 := Nat.lt_of_le_of_lt (Nat.gcd_le_right _ (by omega)) h
  unfold F__law_f fnP ev__law_f fr
  rw [e1, e2]
  by_cases hp : 0 < d
  · simp only [hp, if_true] at g0 g1 ⊢
    have c : CMulW ((Nat.gcd n.natAbs d.natAbs : Nat) : Int) 1 := cmul (by rw [Int.natAbs_natCast]; exact hg) (by decide)
    simp [F_gcd_ok hn h, hp, c, bindT, cdiv g0 g1, frz, sizeLine_ge]
  · simp only [hp, if_false] at g0 g1 ⊢
    have c : CMulW ((Nat.gcd n.natAbs d.natAbs : Nat) : Int) (-1) := cmul (by rw [Int.natAbs_natCast]; exact hg) (by decide)
    simp [F_gcd_ok hn h, hp, c, bindT, cdiv g0 g1, frz, sizeLine_ge]
theorem add_small9 {i j : Int} (h1 : i.natAbs < 2 ^ 8000) (h2 : j.natAbs < 2 ^ 8000) : (i + j).natAbs < 2 ^ 9000 := by
  have h3 : (i + j).natAbs ≤ i.natAbs + j.natAbs := Int.natAbs_add_le i j
  have h4 : (2 : Nat) ^ 8001 ≤ 2 ^ 9000 := Nat.pow_le_pow_right (by decide) (by decide)
  have h5 : (2 : Nat) ^ 8001 = 2 * 2 ^ 8000 := by rw [Nat.pow_succ]; omega
  omega
theorem sub_small9 {i j : Int} (h1 : i.natAbs < 2 ^ 8000) (h2 : j.natAbs < 2 ^ 8000) : (i - j).natAbs < 2 ^ 9000 := by
  rw [Int.sub_eq_add_neg]
  exact add_small9 h1 (by rw [Int.natAbs_neg]; exact h2)
theorem L_plus_ok {a b : Rat} (ha : Sm a) (hb : Sm b) : F__law_plus [fr a, fr b] = .ok (fr (a + b)) := by
  unfold F__law_plus fnP ev__law_plus
  simp [frz, cm ha.num hb.den, cm hb.num ha.den, cm ha.den hb.den, F_f_ok (den_mul_ne a b) (add_small9 (mul_small ha.num hb.den) (mul_small hb.num ha.den)) (mul_small9 ha.den hb.den), divInt_add]
theorem L_minus_ok {a b : Rat} (ha : Sm a) (hb : Sm b) : F__law_minus [fr a, fr b] = .ok (fr (a - b)) := by
  unfold F__law_minus fnP ev__law_minus
  simp [frz, cm ha.num hb.den, cm hb.num ha.den, cm ha.den hb.den, F_f_ok (den_mul_ne a b) (sub_small9 (mul_small ha.num hb.den) (mul_small hb.num ha.den)) (mul_small9 ha.den hb.den), divInt_sub]
theorem L_by_ok {a b : Rat} (ha : Sm a) (hb : Sm b) : F__law_by [fr a, fr b] = .ok (fr (a * b)) := by
  unfold F__law_by fnP ev__law_by
  simp [frz, cm ha.num hb.num, cm ha.den hb.den, F_f_ok (den_mul_ne a b) (mul_small9 ha.num hb.num) (mul_small9 ha.den hb.den), divInt_mul]
theorem L_over_ok {a b : Rat} (ha : Sm a) (hb : Sm b) (h0 : b ≠ 0) : F__law_over [fr a, fr b] = .ok (fr (a / b)) := by
  unfold F__law_over fnP ev__law_over
  simp [frz, cm ha.num hb.den, cm ha.den hb.num, F_f_ok (Int.mul_ne_zero (den_ne a) (num_ne h0)) (mul_small9 ha.num hb.den) (mul_small9 ha.den hb.num), divInt_div]
end P55

set_option Elab.async false
set_option linter.all false
set_option maxRecDepth 100000
set_option maxHeartbeats 4000000
/-! Draws out of the bag, wherever it stands. -/
namespace P55
open PySem PySem.Spec PyProof.Rows L2 Zd

/-- the bag's cell, behind at most k draws -/
def Bg (k : Nat) (c : Cell) : Prop := ∃ (a b n : Int) (ns : List Int), c = .lst [.int a, .int b, .int n, .list (ns.map .int)] ∧ 0 ≤ a ∧ 0 ≤ b ∧ b < 2147483647 ∧ 0 ≤ n ∧ n ≤ k ∧ ns.length ≤ 63 ∧ ∀ z ∈ ns, 0 ≤ z
theorem Bg.mono {j k : Nat} {c : Cell} (h : Bg j c) (hk : j ≤ k) : Bg k c := by
  obtain ⟨a, b, n, ns, h1, h2, h3, h4, h5, h6, h7⟩ := h
  exact ⟨a, b, n, ns, h1, h2, h3, h4, h5, by omega, h7⟩
def isLls : Cell → Bool
  | .lls _ => true
  | _ => false
theorem Bg.nl {k : Nat} {c : Cell} (h : Bg k c) : isLls c = false := by
  obtain ⟨a, b, n, ns, rfl, _⟩ := h
  rfl
/-- a store with the bag at l, behind at most k draws; no list of lists stands in it -/
structure BagAt (l k : Nat) (μ : Store) : Prop where
  at_ : ∃ c, μ[l]? = some c ∧ Bg k c
  nl : ∀ c ∈ μ, isLls c = false
theorem BagAt.lt {l k : Nat} {μ : Store} (b : BagAt l k μ) : l < μ.length := by
  obtain ⟨c, h, _⟩ := b.at_
  exact (List.getElem?_eq_some_iff.mp h).1
theorem BagAt.mono {l j k : Nat} {μ : Store} (b : BagAt l j μ) (h : j ≤ k) : BagAt l k μ := by
  obtain ⟨c, h1, h2⟩ := b.at_
  exact ⟨⟨c, h1, h2.mono h⟩, b.nl⟩
/-- the bag has been drawn from; all else stands as it was -/
def Dr (l : Nat) (μ μ' : Store) : Prop := ∃ c, μ' = μ.set l c
theorem Dr.refl {l k : Nat} {μ : Store} (b : BagAt l k μ) : Dr l μ μ := by
  obtain ⟨c, h, _⟩ := b.at_
  refine ⟨c, ?_⟩
  obtain ⟨h1, h2⟩ := List.getElem?_eq_some_iff.mp h
  rw [← h2, List.set_getElem_self]
theorem Dr.trans {l : Nat} {μ μ1 μ2 : Store} (a : Dr l μ μ1) (b : Dr l μ1 μ2) : Dr l μ μ2 := by
  obtain ⟨c, rfl⟩ := a
  obtain ⟨d, rfl⟩ := b
  exact ⟨d, by rw [List.set_set]⟩
theorem Dr.len {l : Nat} {μ μ' : Store} (a : Dr l μ μ') : μ'.length = μ.length := by
  obtain ⟨c, rfl⟩ := a
  simp
/-- places behind stay -/
theorem Dr.app {l : Nat} {μ ex S : Store} (a : Dr l (μ ++ ex) S) (h : l < μ.length) : ∃ μ', S = μ' ++ ex ∧ Dr l μ μ' := by
  obtain ⟨c, rfl⟩ := a
  exact ⟨μ.set l c, by rw [List.set_append_left _ _ h], c, rfl⟩
theorem BagAt.app {l k : Nat} {μ ex : Store} (b : BagAt l k μ) (h : ∀ c ∈ ex, isLls c = false) : BagAt l k (μ ++ ex) := by
  obtain ⟨c, h1, h2⟩ := b.at_
  refine ⟨⟨c, by rw [List.getElem?_append_left b.lt]; exact h1, h2⟩, fun d hd => ?_⟩
  rcases List.mem_append.mp hd with hd | hd
  · exact b.nl d hd
  · exact h d hd
theorem BagAt.unapp {l k : Nat} {μ ex : Store} (b : BagAt l k (μ ++ ex)) (hl : l < μ.length) : BagAt l k μ := by
  obtain ⟨c, h1, h2⟩ := b.at_
  exact ⟨⟨c, by rw [List.getElem?_append_left hl] at h1; exact h1, h2⟩, fun d hd => b.nl d (List.mem_append_left _ hd)⟩
theorem clo_of {c : Cell} (n : Nat) (h : isLls c = false) : cloC n c = true := by
  cases c <;> first | rfl | cases h
/-- behind a def that hands out data, places made within dropped -/
theorem fnS_pd {n m l k : Nat} {ev : EvS} {ds : List D} {μ μ' ex : Store} {d : PyData} (h : fnL n m ev ds μ = .ok (.pd d, μ' ++ ex)) (hd : Dr l μ μ') (hb : BagAt l k μ') : fnS n m ev ds μ = .ok (.pd d, μ') := by
  unfold fnS
  rw [h]
  have e : (μ' ++ ex).take μ.length = μ' := by
    rw [← hd.len]
    simp
  have hall : μ'.all (cloC μ.length) = true := by
    rw [List.all_eq_true]
    intro x hx
    exact clo_of _ (hb.nl x hx)
  simp only [Out.ok_bind, frzO]
  rw [e, if_pos hall]
theorem cut_from (ns : List Int) (k : Int) (hk : 0 ≤ k) : Zd.cutD (ns.map PyData.int) (some k) none = (ns.map .int).drop k.toNat := by
  obtain ⟨j, rfl⟩ := Int.eq_ofNat_of_zero_le hk
  unfold Zd.cutD
  rw [HT.sIx_nat, HT.sIx_none, Int.toNat_natCast, List.length_map]
  rw [List.take_of_length_le (by simp)]
  by_cases h : j ≤ ns.length
  · rw [Nat.min_eq_left h]
  · rw [Nat.min_eq_right (by omega), List.drop_eq_nil_of_le (by simp), List.drop_eq_nil_of_le (by simp; omega)]
theorem head_or {ns : List Int} (h : ∀ z ∈ ns, 0 ≤ z) (j : Nat) : ∃ z : Int, 0 ≤ z ∧ atI ((ns.map PyData.int).drop j ++ [.int 0]) 0 = some (.int z) := by
  rw [← List.map_drop]
  cases e : ns.drop j with
  | nil => exact ⟨0, Int.le_refl _, by simp⟩
  | cons z r => exact ⟨z, h z (List.mem_of_mem_drop (i := j) (by rw [e]; simp)), by simp⟩
theorem bag_ok {ns : List Int} (hl : ns.length ≤ 63) (μ : Store) : ∃ c, F__law_bag [.scr ns] μ = .ok (.ref μ.length, μ ++ [c]) ∧ Bg 0 c := by
  refine ⟨.lst [.int 0, .int 1234567891, .int 0, .list ((ns.map fun z => ((z.natAbs : Nat) : Int)).map .int)], ?_, 0, 1234567891, 0, ns.map fun z => ((z.natAbs : Nat) : Int), rfl, by decide, by decide, by decide, by decide, by decide, by simpa using hl, fun z hz => ?_⟩
  · have hcut : Zd.cutD (ns.map PyData.int) none (some 63) = ns.map PyData.int := by
      unfold Zd.cutD
      rw [show (63 : Int) = ((63 : Nat) : Int) from rfl, HT.sIx_nat, HT.sIx_none, List.length_map, Nat.min_eq_right hl, List.drop_zero, Nat.sub_zero, List.take_of_length_le (by simp)]
    have hi : iLst (eFrz (eSlL (eVar 0) oNone (oSome (eC (.int 63))))) [some (.scr ns), none] μ = .ok ((ns.map fun z => D.pd (.int z), []), μ) := by
      simp [iLst, eSlL, srcL, hcut]
    have hc := comp_mapA (g := []) (T := .nm 1) (elt := eCall fAbs (aCons (eVar 1) aNil)) (env := wipeE [some (.scr ns), none] [1]) (μ := μ) held_nil (fun z : Int => D.pd (.int z)) (fun z => D.pd (.int ((z.natAbs : Nat) : Int))) ns fun z _ =>
      ⟨[some (.scr ns), some (.pd (.int z))], by simp [bindT, wipeE], by simp [abs_eq]⟩
    unfold F__law_bag fnL ev__law_bag
    simp [lcD_eq hi (by simp; exact sizeLine_ge (by omega)) hc, sizeLine_ge]
  · obtain ⟨y, _, rfl⟩ := List.mem_map.mp hz
    omega

theorem pow18 : fPow (.int 10) (.int 18) = some (.int (10 ^ 18)) := by
  have h : CPow 10 18 := by decide
  simp [fPow, fIc, h]
theorem cmS {i j : Int} (h1 : i.natAbs < 2 ^ 100) (h2 : j.natAbs < 2 ^ 100) : CMulW i j := by
  have a := log_lt (by decide) h1
  have b := log_lt (by decide) h2
  unfold CMulW
  omega
theorem fmod_ok {i j : Int} (h : 0 < j) : 0 ≤ i.fmod j ∧ i.fmod j < j := ⟨Int.fmod_nonneg_of_pos i h, Int.fmod_lt_of_pos i h⟩
def evTa : EvS := (sIf (eTst (eOp2 fEq (eIx (eVar 0) (eC (.int 0))) (eC (.int 0)))) (sCons (sSet (.nm 2) (eIx (eFrz (eNew2 gAdd (eFrz (eSlL (eIx (eVar 0) (eC (.int 3))) (oSome (eIx (eVar 0) (eC (.int 2)))) oNone)) (eFrz (eLst (aCons (eC (.int 0)) aNil))))) (eC (.int 0)))) (sCons (sAugIx (· + ·) (eVar 0) (eC (.int 2)) (eC (.int 1))) (sCons (sIf (eTst (eOp2 fGe (eVar 2) (ePow (eC (.int 10)) (eC (.int 18))))) (sSetIx (eVar 0) (eC (.int 0)) (eVar 2)) sNil) (sCons (sSet (.nm 3) (eAdd (eAdd (eMul (eIx (eVar 0) (eC (.int 1))) (eC (.int 48271))) (eMod (eCall fInt (aCons (eVar 2) aNil)) (eC (.int 2147483647)))) (eMul (eC (.int 7919)) (eIx (eVar 0) (eC (.int 2)))))) (sSetIx (eVar 0) (eC (.int 1)) (eMod (eCall fInt (aCons (eVar 3) aNil)) (eC (.int 2147483647)))))))) sNil)
def evTb : EvS := (sIf (eTst (eOp2 fGt (eIx (eVar 0) (eC (.int 0))) (eC (.int 0)))) (sCons (sSet (.nm 4) (eMod (eCall fInt (aCons (eIx (eVar 0) (eC (.int 0))) aNil)) (eVar 1))) (sCons (sSetIx (eVar 0) (eC (.int 0)) (eDiv (eCall fInt (aCons (eIx (eVar 0) (eC (.int 0))) aNil)) (eVar 1))) (sRet (eVar 4)))) sNil)
def evTc : EvS := (sCons (sSet (.nm 5) (eMod (eCall fInt (aCons (eMul (eAdd (eIx (eVar 0) (eC (.int 1))) (eC (.int 1))) (eC (.int 39373))) aNil)) (eC (.int 1000000007)))) (sCons (sSet (.nm 6) (eMod (eCall fInt (aCons (eMul (eMod (eCall fInt (aCons (eMul (eVar 5) (eVar 5)) aNil)) (eC (.int 998244353))) (eC (.int 30011))) aNil)) (eC (.int 998244353)))) (sRet (eMod (eCall fInt (aCons (eDiv (eVar 6) (eC (.int 7))) aNil)) (eVar 1)))))
theorem evT_eq : ev__law_take = sCons evTa (sCons evTb evTc) := rfl
theorem m60 {m : Int} (hm : 0 < m) (hm2 : m < 2 ^ 60) : m.natAbs < 2 ^ 9000 := by
  have h : m.natAbs < 2 ^ 60 := by omega
  exact Nat.lt_trans h (Nat.pow_lt_pow_right (by decide) (by decide))
theorem take_b {l k : Nat} {a b n : Int} {ns : List Int} {μ : Store} {e2 e3 : Option D} (hμ : μ[l]? = some (.lst [.int a, .int b, .int n, .list (ns.map .int)])) (ha : 0 ≤ a) (hb0 : 0 ≤ b) (hb1 : b < 2147483647) (hn : 0 ≤ n) (hnk : n ≤ k) (hl : ns.length ≤ 63) (hz : ∀ z ∈ ns, 0 ≤ z) {m : Int} (hm : 0 < m) (hm2 : m < 2 ^ 60) :
    ∃ c' v env', sCons evTb evTc [some (.ref l), some (.pd (.int m)), e2, e3, none, none, none] μ = .ok ((.rt (.pd (.int v)), env'), μ.set l c') ∧ Bg k c' ∧ 0 ≤ v ∧ v < m := by
  have m0 : m ≠ 0 := by omega
  have lt := (List.getElem?_eq_some_iff.mp hμ).1
  by_cases h : 0 < a
  · obtain ⟨f1, f2⟩ := fmod_ok (i := a) hm
    have cd : CDivZ a m := cdiv m0 (m60 hm hm2)
    refine ⟨.lst [.int (a.fdiv m), .int b, .int n, .list (ns.map .int)], a.fmod m, [some (.ref l), some (.pd (.int m)), e2, e3, some (.pd (.int (a.fmod m))), none, none], ?_, ⟨_, _, _, _, rfl, Int.fdiv_nonneg ha (by omega), hb0, hb1, hn, hnk, hl, hz⟩, f1, f2⟩
    simp [evTb, bindT, h, m0, cd, hμ]
  · have f0 := fmod_ok (i := (b + 1) * 39373) (j := 1000000007) (by decide)
    have c1 : CMulW (b + 1) 39373 := cmS (by have : (2 : Nat) ^ 31 < 2 ^ 100 := by decide
                                             omega) (by decide)
    revert f0
    generalize hx : Int.fmod ((b + 1) * 39373) 1000000007 = x
    intro f0
    have c2 : CMulW x x := cmS (by have : (2 : Nat) ^ 31 < 2 ^ 100 := by decide
                                   omega) (by have : (2 : Nat) ^ 31 < 2 ^ 100 := by decide
                                              omega)
    have f1 := fmod_ok (i := x * x) (j := 998244353) (by decide)
    revert f1
    generalize hy : Int.fmod (x * x) 998244353 = y
    intro f1
    have c3 : CMulW y 30011 := cmS (by have : (2 : Nat) ^ 31 < 2 ^ 100 := by decide
                                       omega) (by decide)
    have c4 : ∀ z : Int, CDivZ z 7 := fun z => ⟨by decide, by decide⟩
    obtain ⟨f2, f3⟩ := fmod_ok (i := Int.fdiv (Int.fmod (y * 30011) 998244353) 7) hm
    have e : μ = μ.set l (.lst [.int a, .int b, .int n, .list (ns.map .int)]) := by
      obtain ⟨h1, h2⟩ := List.getElem?_eq_some_iff.mp hμ
      rw [← h2, List.set_getElem_self]
    refine ⟨.lst [.int a, .int b, .int n, .list (ns.map .int)], _, [some (.ref l), some (.pd (.int m)), e2, e3, none, some (.pd (.int x)), some (.pd (.int (Int.fmod (y * 30011) 998244353)))], ?_, ⟨_, _, _, _, rfl, ha, hb0, hb1, hn, hnk, hl, hz⟩, f2, f3⟩
    rw [← e]
    simp [evTb, evTc, bindT, h, m0, c1, hx, c2, hy, c3, c4, hμ]
theorem nl_set {l : Nat} {μ : Store} {c : Cell} (h : ∀ c ∈ μ, isLls c = false) (hc : isLls c = false) : ∀ d ∈ μ.set l c, isLls d = false := fun d hd => by
  rcases List.mem_or_eq_of_mem_set hd with q | q
  · exact h d q
  · rw [q]; exact hc
theorem BagAt.set {l k : Nat} {μ : Store} {c : Cell} (b : BagAt l k μ) {j : Nat} (hc : Bg j c) : BagAt l j (μ.set l c) := ⟨⟨c, by rw [List.getElem?_set_self b.lt], hc⟩, nl_set b.nl hc.nl⟩
theorem take_ok {l k : Nat} {μ : Store} (hb : BagAt l k μ) (hk : k ≤ 1000000) {m : Int} (hm : 0 < m) (hm2 : m < 2 ^ 60) :
    ∃ μ' v, F__law_take [.ref l, .pd (.int m)] μ = .ok (.pd (.int v), μ') ∧ Dr l μ μ' ∧ BagAt l (k + 1) μ' ∧ 0 ≤ v ∧ v < m := by
  obtain ⟨c0, hc0, a, b, n, ns, rfl, ha, hb0, hb1, hn, hnk, hl, hz⟩ := hb.at_
  have lt := hb.lt
  -- what is left when the first part has run
  have fin : ∀ (a b n : Int) (e2 e3 : Option D), 0 ≤ a → 0 ≤ b → b < 2147483647 → 0 ≤ n → n ≤ (k + 1 : Nat) → evTa [some (.ref l), some (.pd (.int m)), none, none, none, none, none] μ = .ok ((.nx, [some (.ref l), some (.pd (.int m)), e2, e3, none, none, none]), μ.set l (.lst [.int a, .int b, .int n, .list (ns.map .int)])) →
      ∃ μ' v, F__law_take [.ref l, .pd (.int m)] μ = .ok (.pd (.int v), μ') ∧ Dr l μ μ' ∧ BagAt l (k + 1) μ' ∧ 0 ≤ v ∧ v < m := by
    intro a b n e2 e3 ha hb0 hb1 hn hnk he
    have h0 : (μ.set l (.lst [.int a, .int b, .int n, .list (ns.map .int)]))[l]? = some (.lst [.int a, .int b, .int n, .list (ns.map .int)]) := List.getElem?_set_self lt
    obtain ⟨c', v, env', h1, h2, h3, h4⟩ := take_b (e2 := e2) (e3 := e3) h0 ha hb0 hb1 hn hnk hl hz hm hm2
    rw [List.set_set] at h1
    have hd : Dr l μ (μ.set l c') := ⟨c', rfl⟩
    have hB : BagAt l (k + 1) (μ.set l c') := hb.set h2
    refine ⟨μ.set l c', v, fnS_pd (ex := []) ?_ hd hB, hd, hB, h3, h4⟩
    unfold fnL
    rw [evT_eq, List.append_nil]
    simp only [v_cons] at h1
    simp [he, h1]
  have hset : ∀ x : Cell, (μ.set l x)[l]? = some x := fun x => List.getElem?_set_self lt
  by_cases h0 : a = 0
  · subst h0
    obtain ⟨z, z0, hz1⟩ := head_or hz n.toNat
    have c1 : CMulW b 48271 := cmS (by have : (2 : Nat) ^ 31 < 2 ^ 100 := by decide
                                       omega) (by decide)
    have c2 : CMulW 7919 (n + 1) := cmS (by decide) (by have : (2 : Nat) ^ 31 < 2 ^ 100 := by decide
                                                        omega)
    have g0 := fmod_ok (i := b * 48271 + z.fmod 2147483647 + 7919 * (n + 1)) (j := 2147483647) (by decide)
    by_cases hc : (1000000000000000000 : Int) ≤ z
    · refine fin z _ (n + 1) (some (.pd (.int z))) (some (.pd (.int (b * 48271 + z.fmod 2147483647 + 7919 * (n + 1))))) z0 g0.1 g0.2 (by omega) (by omega) ?_
      have hs : ns.length - n.toNat + 1 ≤ sizeLine := sizeLine_ge (by omega)
      simp [evTa, bindT, cut_from ns n hn, hs, hz1, pow18, hc, c1, c2, sizeLine_ge, hc0, hset]
    · refine fin 0 _ (n + 1) (some (.pd (.int z))) (some (.pd (.int (b * 48271 + z.fmod 2147483647 + 7919 * (n + 1))))) (Int.le_refl _) g0.1 g0.2 (by omega) (by omega) ?_
      have hs : ns.length - n.toNat + 1 ≤ sizeLine := sizeLine_ge (by omega)
      simp [evTa, bindT, cut_from ns n hn, hs, hz1, pow18, hc, c1, c2, sizeLine_ge, hc0, hset]
  · have e : μ = μ.set l (.lst [.int a, .int b, .int n, .list (ns.map .int)]) := by
      obtain ⟨h1, h2⟩ := List.getElem?_eq_some_iff.mp hc0
      rw [← h2, List.set_getElem_self]
    refine fin a b n none none ha hb0 hb1 hn (by omega) ?_
    rw [← e]
    simp [evTa, h0, hc0]
theorem some_ok {l k : Nat} {μ : Store} (hb : BagAt l k μ) (hk : k ≤ 1000000) {ds : List PyData} (h0 : 0 < ds.length) (h1 : ds.length ≤ 1000) :
    ∃ μ' d, F__law_some [.ref l, .pd (.list ds)] μ = .ok (.pd d, μ') ∧ Dr l μ μ' ∧ BagAt l (k + 1) μ' ∧ d ∈ ds := by
  obtain ⟨μ', v, e1, e0, e2, e3, e4⟩ := take_ok hb hk (m := (ds.length : Int)) (by omega) (by omega)
  obtain ⟨j, rfl⟩ := Int.eq_ofNat_of_zero_le e3
  have hj : j < ds.length := by omega
  refine ⟨μ', ds[j], fnS_pd (ex := []) ?_ e0 e2, e0, e2, List.getElem_mem hj⟩
  unfold fnL ev__law_some
  simp -implicitDefEqProofs [e1, at_nat, hj]
/-- a fraction as it is written -/
theorem fr_mk (n : Int) (d : Nat) (h0 : d ≠ 0) (h1 : Nat.gcd n.natAbs d = 1) : PyData.tuple [.int n, .int (d : Int)] = fr ⟨n, d, h0, h1⟩ := rfl
/-- a told number -/
def Told (q : Rat) : Prop := q.num.natAbs ≤ 99 ∧ q.den ≤ 4
def menuD : List PyData := [.tuple [.int 0, .int 1], .tuple [.int 1, .int 1], .tuple [.int (-1), .int 1], .tuple [.int 1, .int 2], .tuple [.int (-3), .int 2], .tuple [.int 2, .int 1], .tuple [.int 5, .int 3], .tuple [.int (-7), .int 4]]
theorem menu_told : ∀ d ∈ menuD, ∃ q, d = fr q ∧ Told q := by
  intro d hd
  simp only [menuD, List.mem_cons, List.not_mem_nil, or_false] at hd
  rcases hd with rfl | rfl | rfl | rfl | rfl | rfl | rfl | rfl
  · exact ⟨_, fr_mk 0 1 (by decide) (by decide), by decide, by decide⟩
  · exact ⟨_, fr_mk 1 1 (by decide) (by decide), by decide, by decide⟩
  · exact ⟨_, fr_mk (-1) 1 (by decide) (by decide), by decide, by decide⟩
  · exact ⟨_, fr_mk 1 2 (by decide) (by decide), by decide, by decide⟩
  · exact ⟨_, fr_mk (-3) 2 (by decide) (by decide), by decide, by decide⟩
  · exact ⟨_, fr_mk 2 1 (by decide) (by decide), by decide, by decide⟩
  · exact ⟨_, fr_mk 5 3 (by decide) (by decide), by decide, by decide⟩
  · exact ⟨_, fr_mk (-7) 4 (by decide) (by decide), by decide, by decide⟩
theorem told_ok {l k : Nat} {μ : Store} (hb : BagAt l k μ) (hk : k ≤ 900000) :
    ∃ μ' q, F__law_some_fraction [.ref l] μ = .ok (.pd (fr q), μ') ∧ Dr l μ μ' ∧ BagAt l (k + 2) μ' ∧ Told q := by
  obtain ⟨μ1, v, e1, e0, e2, e3, e4⟩ := take_ok hb (by omega) (m := 199) (by decide) (by decide)
  obtain ⟨μ2, d, g1, g0, g2, g3⟩ := some_ok e2 (by omega) (ds := menuD ++ [.tuple [.int (v - 99), .int 1]]) (by simp [menuD]) (by simp [menuD])
  have hd : ∃ q, d = fr q ∧ Told q := by
    rcases List.mem_append.mp g3 with h | h
    · exact menu_told d h
    · rw [List.mem_singleton.mp h]
      exact ⟨_, fr_mk (v - 99) 1 (by decide) (by simp), by show (v - 99).natAbs ≤ 99; omega, by show 1 ≤ 4; decide⟩
  obtain ⟨q, rfl, tq⟩ := hd
  refine ⟨μ2, q, fnS_pd (ex := []) ?_ (e0.trans g0) g2, e0.trans g0, g2, tq⟩
  unfold fnL ev__law_some_fraction
  simp only [menuD] at g1
  simp only [List.cons_append, List.nil_append] at g1
  simp -implicitDefEqProofs [bindT, e1, sizeLine_ge, g1]
end P55

set_option Elab.async false
set_option linter.all false
set_option maxRecDepth 100000
set_option maxHeartbeats 4000000
/-! Lists drawn; rules drawn. -/
namespace P55
open PySem PySem.Spec PyProof.Rows L2 Zd
theorem sz {n : Nat} (h : n ≤ 1000) : n ≤ sizeLine := sizeLine_ge h
theorem szl' {n : Nat} (h : n ≤ 999) : n < sizeLine := small1000 (by omega)
/-- .. that hands out a list of its own -/
theorem fnS_ref {n m l k i : Nat} {ev : EvS} {ds : List D} {μ μ' ex : Store} {es : List PyData} (h : fnL n m ev ds μ = .ok (.ref (μ.length + i), μ' ++ ex)) (he : ex[i]? = some (.lst es)) (hd : Dr l μ μ') (hb : BagAt l k μ') : fnS n m ev ds μ = .ok (.pd (.list es), μ') := by
  unfold fnS
  rw [h]
  have hl := hd.len
  have e : (μ' ++ ex).take μ.length = μ' := by
    rw [← hl]
    simp
  have hall : μ'.all (cloC μ.length) = true := by
    rw [List.all_eq_true]
    intro x hx
    exact clo_of _ (hb.nl x hx)
  have g : (μ' ++ ex)[μ.length + i]? = some (.lst es) := by
    rw [List.getElem?_append_right (by omega), hl, Nat.add_sub_cancel_left]
    exact he
  have n1 : ¬ μ.length + i < μ.length := by omega
  simp only [Out.ok_bind, frzO, if_neg n1, g]
  rw [e, if_pos hall]
/-- a list of drawn items, one for each -/
theorem comp_draw {l a v : Nat} {elt : EvE} {env : Zd.Env} {P : PyData → Prop} (hv : v < env.length) (hl : ∀ (d : D) (k : Nat) (μ : Store), k ≤ 900000 → BagAt l k μ → ∃ (μ' : Store) (x : PyData), elt (env.set v (some d)) μ = .ok (.pd x, μ') ∧ Dr l μ μ' ∧ BagAt l (k + a) μ' ∧ P x) :
    ∀ (items : List D) (k : Nat) (μ : Store), k + a * items.length ≤ 900000 → BagAt l k μ → ∃ (μ' : Store) (xs : List PyData), compD [] (.nm v) tYesE elt env items μ = .ok (xs.map .pd, μ') ∧ Dr l μ μ' ∧ BagAt l (k + a * items.length) μ' ∧ xs.length = items.length ∧ ∀ x ∈ xs, P x
  | [], k, μ, _, b => ⟨μ, [], by unfold compD; rw [if_pos held_nil]; rfl, .refl b, by simpa using b, rfl, by simp⟩
  | d :: r, k, μ, hk, b => by
    have hk' : k + a + a * r.length ≤ 900000 := by
      rw [List.length_cons, Nat.mul_succ] at hk
      omega
    obtain ⟨μ1, x, e1, d1, b1, p1⟩ := hl d k μ (by omega) b
    obtain ⟨μ2, xs, e2, d2, b2, l2, p2⟩ := comp_draw hv hl r (k + a) μ1 hk' b1
    refine ⟨μ2, x :: xs, ?_, d1.trans d2, by rw [List.length_cons, Nat.mul_succ, Nat.add_comm (a * r.length), ← Nat.add_assoc]; exact b2, by simp [l2], fun y hy => ?_⟩
    · unfold compD
      rw [if_pos held_nil]
      have hb : bindT (.nm v) d env = some (env.set v (some d)) := by simp [bindT, hv]
      rw [hb]
      simp [tYesE, e1, e2]
    · rcases List.mem_cons.mp hy with rfl | hy
      · exact p1
      · exact p2 y hy
/-- a list of those that a drawn test leaves -/
theorem comp_drawF {l a v : Nat} {tst : EvT} {env : Zd.Env} (hv : v < env.length) {G : D → Prop} (hl : ∀ (d : D) (k : Nat) (μ : Store), G d → k ≤ 900000 → BagAt l k μ → ∃ (μ' : Store) (b : Bool), tst (env.set v (some d)) μ = .ok (b, μ') ∧ Dr l μ μ' ∧ BagAt l (k + a) μ') :
    ∀ (items : List D) (k : Nat) (μ : Store), (∀ d ∈ items, G d) → k + a * items.length ≤ 900000 → BagAt l k μ → ∃ (μ' : Store) (xs : List D), compD [] (.nm v) tst (eVar v) env items μ = .ok (xs, μ') ∧ Dr l μ μ' ∧ BagAt l (k + a * items.length) μ' ∧ xs.Sublist items
  | [], k, μ, _, _, b => ⟨μ, [], by unfold compD; rw [if_pos held_nil], .refl b, by simpa using b, .slnil⟩
  | d :: r, k, μ, hg, hk, b => by
    have hk' : k + a + a * r.length ≤ 900000 := by
      rw [List.length_cons, Nat.mul_succ] at hk
      omega
    obtain ⟨μ1, t, e1, d1, b1⟩ := hl d k μ (hg d (by simp)) (by omega) b
    obtain ⟨μ2, xs, e2, d2, b2, l2⟩ := comp_drawF hv hl r (k + a) μ1 (fun x hx => hg x (by simp [hx])) hk' b1
    have hb : bindT (.nm v) d env = some (env.set v (some d)) := by simp [bindT, hv]
    have b2' : BagAt l (k + a * (d :: r).length) μ2 := by rw [List.length_cons, Nat.mul_succ, Nat.add_comm (a * r.length), ← Nat.add_assoc]; exact b2
    cases t with
    | false =>
      refine ⟨μ2, xs, ?_, d1.trans d2, b2', l2.cons d⟩
      unfold compD
      rw [if_pos held_nil, hb]
      simp [e1, e2]
    | true =>
      refine ⟨μ2, d :: xs, ?_, d1.trans d2, b2', l2.cons_cons d⟩
      have hx : eVar v (env.set v (some d)) μ1 = .ok (d, μ1) := v_var v (List.getElem?_set_self hv)
      unfold compD
      rw [if_pos held_nil, hb]
      simp [e1, e2, hx]
theorem intsD_map (L : List Nat) : L.map (fun (i : Nat) => PyData.int (i : Int)) = (L.map fun (i : Nat) => (i : Int)).map PyData.int := by
  rw [List.map_map]
  rfl
/-- a list of a mapped list -/
theorem sub_map {α β : Type} {f : α → β} : ∀ {l : List α} {xs : List β}, xs.Sublist (l.map f) → ∃ ys : List α, xs = ys.map f ∧ ys.Sublist l
  | [], xs, h => ⟨[], by simpa using h, .slnil⟩
  | a :: l, xs, h => by
    rw [List.map_cons] at h
    cases h with
    | cons _ h =>
      obtain ⟨ys, rfl, h2⟩ := sub_map h
      exact ⟨ys, rfl, h2.cons a⟩
    | cons_cons _ h =>
      obtain ⟨ys, rfl, h2⟩ := sub_map h
      exact ⟨a :: ys, rfl, h2.cons_cons a⟩
/-- some cells -/
theorem cells_tst {l k n : Nat} {μ : Store} (b : BagAt l k μ) (hk : k ≤ 900000) {d : D} : ∃ (μ' : Store) (t : Bool), eTst (eOp2 fEq (eCallS F__law_take (aCons (eVar 0) (aCons (eC (.int 2)) aNil))) (eC (.int 0))) [some (.ref l), some (.pd (.int (n : Int))), some d] μ = .ok (t, μ') ∧ Dr l μ μ' ∧ BagAt l (k + 1) μ' := by
  obtain ⟨μ1, v, e1, d1, b1, v0, v1⟩ := take_ok b (by omega) (m := 2) (by decide) (by decide)
  exact ⟨μ1, decide (v = 0), by simp -implicitDefEqProofs [e1], d1, b1⟩
theorem cells_ok {l k n : Nat} {μ : Store} (hb : BagAt l k μ) (hk : k ≤ 800000) (hn : n ≤ 9) :
    ∃ (μ' : Store) (L : List Nat), F__law_some_cells [.ref l, .pd (.int (n : Int))] μ = .ok (.pd (.list (L.map fun (i : Nat) => .int (i : Int))), μ') ∧ Dr l μ μ' ∧ BagAt l (k + 9) μ' ∧ L.Sublist (List.range n) := by
  obtain ⟨μ1, xs, e1, d1, b1, s1⟩ := comp_drawF (l := l) (a := 1) (v := 2) (tst := eTst (eOp2 fEq (eCallS F__law_take (aCons (eVar 0) (aCons (eC (.int 2)) aNil))) (eC (.int 0)))) (env := [some (.ref l), some (.pd (.int (n : Int))), none]) (by decide : 2 < 3) (G := fun _ => True) (fun d k' μ _ hk' b => cells_tst b hk') ((List.range n).map fun (i : Nat) => D.pd (.int (i : Int))) k μ (fun _ _ => trivial) (by rw [List.length_map, List.length_range]; omega) hb
  obtain ⟨L, rfl, hL⟩ := sub_map s1
  have i1 : iRg1 (eVar 1) [some (.ref l), some (.pd (.int (n : Int))), none] μ = .ok (((List.range n).map fun (k : Nat) => D.pd (.int (k : Int)), []), μ) := rg1_ok rfl (by omega)
  have hl := lcD_eq (env := [some (.ref l), some (.pd (.int (n : Int))), none]) (vs := [2]) i1 (by rw [List.length_map, List.length_range]; exact sz (by omega)) e1
  have b2 : BagAt l (k + 9) μ1 := b1.mono (by rw [List.length_map, List.length_range]; omega)
  refine ⟨μ1, L, fnS_pd (ex := []) ?_ d1 b2, d1, b2, hL⟩
  have s0 : ev__law_some_cells [some (.ref l), some (.pd (.int (n : Int))), none] μ = .ok ((.rt (.pd (.list (L.map fun (i : Nat) => .int (i : Int)))), [some (.ref l), some (.pd (.int (n : Int))), none]), μ1) := by
    unfold ev__law_some_cells
    simp -implicitDefEqProofs [hl]
  rw [List.append_nil]
  exact fnL_run s0 rfl
/-- a mixed list: the same items in another order -/
theorem mixed_ok {l k : Nat} {μ : Store} (hb : BagAt l k μ) (hk : k ≤ 800000) {ds : List PyData} (hn : ds.length ≤ 100) :
    ∃ (μ' : Store) (es : List PyData), F__law_mixed [.ref l, .pd (.list ds)] μ = .ok (.pd (.list es), μ') ∧ Dr l μ μ' ∧ BagAt l (k + ds.length) μ' ∧ es.Perm ds := by
  have s0 : p_law_mixed_0 [some (.ref l), some (.pd (.list ds)), none, none] μ = .ok ((.nx, [some (.ref l), some (.pd (.list ds)), some (.ref μ.length), none]), μ ++ [.lst []]) := by
    simp [p_law_mixed_0, bindT, sizeLine_ge]
  have hi : iLst (eVar 1) [some (.ref l), some (.pd (.list ds)), some (.ref μ.length), none] (μ ++ [.lst []]) = .ok ((ds.map .pd, []), μ ++ [.lst []]) := by simp [iLst, srcL]
  obtain ⟨env', S, q1, rfl, μ', es, rfl, d1, b1, p1⟩ := for_rel (T := .nm 3) (b := p_law_mixed_1_bx) (fun j env S => env = [some (.ref l), some (.pd (.list ds)), some (.ref μ.length), none] ∧ ∃ (μ' : Store) (es : List PyData), S = μ' ++ [.lst es] ∧ Dr l μ μ' ∧ BagAt l (k + j) μ' ∧ es.Perm (ds.take j)) hi ⟨rfl, μ, [], rfl, .refl hb, hb, by simp⟩ (fun _ _ _ _ => held_nil) (fun j d env S hd hP => by
    obtain ⟨rfl, μ', es, rfl, d1, b1, p1⟩ := hP
    simp only [List.getElem?_map, Option.map_eq_some_iff] at hd
    obtain ⟨x, hx, rfl⟩ := hd
    have hj := (List.getElem?_eq_some_iff.mp hx).1
    have le : es.length = j := by
      rw [p1.length_eq, List.length_take]
      omega
    have lt := hb.lt
    have lm := d1.len
    obtain ⟨S2, v, e2, d2, b2, v0, v1⟩ := take_ok (b1.app (ex := [.lst es]) (by simp [isLls])) (by omega) (m := (es.length : Int) + 1) (by omega) (by omega)
    obtain ⟨μ2, rfl, d3⟩ := d2.app (by omega)
    have lm2 := d3.len
    obtain ⟨i, rfl⟩ := Int.eq_ofNat_of_zero_le v0
    have hz : es.length < sizeLine := szl' (by omega)
    have hi2 : (i : Int) ≤ (es.length : Int) := by omega
    refine ⟨[some (.ref l), some (.pd (.list ds)), some (.ref μ.length), some (.pd x)], _, _, by simp [bindT], .inl ?_, rfl, μ2, es.take i ++ x :: es.drop i, rfl, d1.trans d3, b2.unapp (by omega), ?_⟩
    · have g1 : (μ' ++ [Cell.lst es])[μ.length]? = some (.lst es) := by rw [← lm]; simp
      have g2 : (μ2 ++ [Cell.lst es])[μ.length]? = some (.lst es) := by rw [← lm, ← lm2]; simp
      have g3 : (μ2 ++ [Cell.lst es]).set μ.length (.lst (es.take i ++ x :: es.drop i)) = μ2 ++ [.lst (es.take i ++ x :: es.drop i)] := by rw [← lm, ← lm2]; simp
      have ha : mInsert es [.int (i : Int), x] = some (.none, es.take i ++ x :: es.drop i) := by
        show (if _ then some _ else none) = _
        rw [if_pos ⟨hz, by omega, hi2⟩]
        rfl
      have hdr : deref (μ' ++ [Cell.lst es]) (.ref μ.length) = some (.list es) := dreff _ _ _ g1
      simp -implicitDefEqProofs [p_law_mixed_1_bx, p_law_mixed_1_b, g1, g2, g3, e2, derefs, hdr, ha, wipeE]
    · rw [List.take_add_one, hx]
      have : (es.take i ++ x :: es.drop i).Perm (x :: es) := by
        have h1 := List.perm_middle (a := x) (l₁ := es.take i) (l₂ := es.drop i)
        rw [List.take_append_drop] at h1
        exact h1
      refine this.trans ?_
      have h2 : (ds.take j ++ [x]).Perm (x :: ds.take j) := List.perm_append_comm
      exact (p1.cons x).trans h2.symm)
  rw [List.length_map] at b1 p1
  have lm := d1.len
  have s2 : p_law_mixed_2 [some (.ref l), some (.pd (.list ds)), some (.ref μ.length), none] (μ' ++ [.lst es]) = .ok ((.rt (.ref μ.length), [some (.ref l), some (.pd (.list ds)), some (.ref μ.length), none]), μ' ++ [.lst es]) := rfl
  refine ⟨μ', es, fnS_ref (i := 0) (fnL_run ((congrFun (congrFun parts_law_mixed _) _).trans ((seq_nx s0).trans ((seq_nx q1).trans s2))) rfl) rfl d1 b1, d1, b1, by rw [List.take_length] at p1; exact p1⟩
end P55

set_option Elab.async false
set_option linter.all false
set_option maxRecDepth 100000
set_option maxHeartbeats 4000000
/-! Sizes; equality of fractions; common denominators. -/
namespace P55
open PySem PySem.Spec PyProof.Rows L2 Zd
/-- numerator and denominator at most -/
def Bd (N D : Nat) (q : Rat) : Prop := q.num.natAbs ≤ N ∧ q.den ≤ D
theorem Bd.sm {N D : Nat} {q : Rat} (h : Bd N D q) (hN : N < 2 ^ 4000) (hD : D < 2 ^ 4000) : Sm q := ⟨Nat.lt_of_le_of_lt h.1 hN, Nat.lt_of_le_of_lt h.2 hD⟩
theorem two400 {N : Nat} (h : N ≤ 2 ^ 200) : N < 2 ^ 4000 := Nat.lt_of_le_of_lt h (Nat.pow_lt_pow_right (by decide) (by decide))
theorem Bd.mono {N D N' D' : Nat} {q : Rat} (h : Bd N D q) (h1 : N ≤ N') (h2 : D ≤ D') : Bd N' D' q := ⟨Nat.le_trans h.1 h1, Nat.le_trans h.2 h2⟩
theorem Bd.divInt {a b : Int} (hb : b ≠ 0) : Bd a.natAbs b.natAbs (Rat.divInt a b) := by
  constructor
  · rw [Rat.num_divInt]
    have h1 : (b.sign * a / (b.gcd a : Int)).natAbs ≤ (b.sign * a).natAbs := Int.natAbs_ediv_le_natAbs _ _
    have h2 : (b.sign * a).natAbs ≤ a.natAbs := by
      rw [Int.natAbs_mul]
      have : b.sign.natAbs ≤ 1 := by
        rcases Int.lt_trichotomy b 0 with h | h | h
        · rw [Int.sign_eq_neg_one_of_neg h]; decide
        · exact absurd h hb
        · rw [Int.sign_eq_one_of_pos h]; decide
      exact Nat.le_trans (Nat.mul_le_mul_right _ this) (by rw [Nat.one_mul]; exact Nat.le_refl _)
    exact Nat.le_trans h1 h2
  · rw [Rat.den_divInt, if_neg hb]
    exact Nat.div_le_self _ _
theorem Bd.of_divInt {a b : Int} {N D : Nat} (hb : b ≠ 0) (h1 : a.natAbs ≤ N) (h2 : b.natAbs ≤ D) : Bd N D (Rat.divInt a b) := (Bd.divInt hb).mono h1 h2
theorem Bd.mul {a b : Rat} {N D M E : Nat} (ha : Bd N D a) (hb : Bd M E b) : Bd (N * M) (D * E) (a * b) := by
  rw [← divInt_mul]
  refine Bd.of_divInt (den_mul_ne a b) ?_ ?_
  · rw [Int.natAbs_mul]
    exact Nat.mul_le_mul ha.1 hb.1
  · rw [Int.natAbs_mul, Int.natAbs_natCast, Int.natAbs_natCast]
    exact Nat.mul_le_mul ha.2 hb.2
theorem Bd.div {a b : Rat} {N D M E : Nat} (ha : Bd N D a) (hb : Bd M E b) (h0 : b ≠ 0) : Bd (N * E) (D * M) (a / b) := by
  rw [← divInt_div]
  refine Bd.of_divInt (Int.mul_ne_zero (den_ne a) (num_ne h0)) ?_ ?_
  · rw [Int.natAbs_mul, Int.natAbs_natCast]
    exact Nat.mul_le_mul ha.1 hb.2
  · rw [Int.natAbs_mul, Int.natAbs_natCast]
    exact Nat.mul_le_mul ha.2 hb.1
theorem shaped_fr (q : Rat) : SeqAt.shaped (fr q) = true := by
  simp [SeqAt.shaped, fr, PyData.canLay0, PyData.canLayAll0, PyData.depth, PyData.depthAll]
theorem eqv_fr (a b : Rat) : PyData.eqv (fr a) (fr b) = decide (a = b) := by
  simp only [fr, PyData.eqv, PyData.eqvAll, Bool.and_true]
  by_cases h : a = b
  · subst h
    simp
  · have : ¬ (a.num = b.num ∧ (a.den : Int) = (b.den : Int)) := fun z => h (Rat.ext z.1 (by omega))
    simp only [h, decide_false, Bool.and_eq_false_iff, beq_eq_false_iff_ne]
    by_cases h1 : a.num = b.num
    · exact .inr fun z => this ⟨h1, z⟩
    · exact .inl h1
@[simp] theorem fEq_fr (a b : Rat) : fEq (fr a) (fr b) = some (.bool (decide (a = b))) := by
  have e : fEqS (fr a) (fr b) = none := rfl
  simp [fEq, e, fEqD, shaped_fr, eqv_fr]
@[simp] theorem fNe_fr (a b : Rat) : fNe (fr a) (fr b) = some (.bool (!decide (a = b))) := by
  have e : fNeS (fr a) (fr b) = none := rfl
  simp [fNe, e, fNeD, shaped_fr, eqv_fr]
theorem zero_fr : ZEROd = fr 0 := rfl
theorem one_fr : ONEd = fr 1 := rfl
theorem at_range {α : Type} {n i : Nat} (g : Nat → α) (h : i < n) : atI ((List.range n).map g) (i : Int) = some (g i) := by
  rw [at_nat]
  simp [h]
theorem Sm.of200 {q : Rat} {N D : Nat} (h : Bd N D q) (hN : N ≤ 2 ^ 200) (hD : D ≤ 2 ^ 200) : Sm q := h.sm (two400 hN) (two400 hD)
theorem sm0 : Sm 0 := Sm.of200 (N := 0) (D := 1) ⟨by decide, by decide⟩ (by decide) (by decide)
theorem sm1 : Sm 1 := Sm.of200 (N := 1) (D := 1) ⟨by decide, by decide⟩ (by decide) (by decide)
/-- what is needed of an even book -/
theorem Sm.of1 {q : Rat} {N D : Nat} (h : Bd N D q) (hN : N ≤ 2 ^ 3000) (hD : D ≤ 2 ^ 3000) : Sm q :=
  h.sm (Nat.lt_of_le_of_lt hN (Nat.pow_lt_pow_right (by decide) (by decide))) (Nat.lt_of_le_of_lt hD (Nat.pow_lt_pow_right (by decide) (by decide)))
theorem pw_mul (a c : Nat) : 2 ^ a * 2 ^ c = 2 ^ (a + c) := (Nat.pow_add 2 a c).symm
/-- over the denominator D, at most N above -/
def Fx (D N : Nat) (q : Rat) : Prop := ∃ m : Int, q * (D : Rat) = (m : Rat) ∧ m.natAbs ≤ N
theorem nat_ne {D : Nat} (h : 0 < D) : (D : Rat) ≠ 0 := fun z => by
  have := Rat.natCast_pos.mpr h
  rw [z] at this
  exact absurd this (by decide)
theorem Fx.bd {D N : Nat} {q : Rat} (h : Fx D N q) (hD : 0 < D) : Bd N D q := by
  obtain ⟨m, e, hm⟩ := h
  have h0 := nat_ne hD
  have e2 : q = Rat.divInt m (D : Int) := by
    rw [Rat.divInt_eq_div, ← e]
    have : ((D : Int) : Rat) = (D : Rat) := rfl
    rw [this]
    grind
  rw [e2]
  exact Bd.of_divInt (by omega) hm (by omega)
theorem Fx.mono {D N M : Nat} {q : Rat} (h : Fx D N q) (hM : N ≤ M) : Fx D M q := by
  obtain ⟨m, e, hm⟩ := h
  exact ⟨m, e, Nat.le_trans hm hM⟩
theorem Fx.add {D N M : Nat} {a b : Rat} (ha : Fx D N a) (hb : Fx D M b) : Fx D (N + M) (a + b) := by
  obtain ⟨m, e, hm⟩ := ha
  obtain ⟨k, e2, hk⟩ := hb
  refine ⟨m + k, ?_, Nat.le_trans (Int.natAbs_add_le m k) (Nat.add_le_add hm hk)⟩
  rw [Rat.intCast_add, ← e, ← e2]
  grind
theorem Fx.neg {D N : Nat} {a : Rat} (ha : Fx D N a) : Fx D N (-a) := by
  obtain ⟨m, e, hm⟩ := ha
  refine ⟨-m, ?_, by rw [Int.natAbs_neg]; exact hm⟩
  rw [Rat.intCast_neg, ← e]
  grind
theorem Fx.sub {D N M : Nat} {a b : Rat} (ha : Fx D N a) (hb : Fx D M b) : Fx D (N + M) (a - b) := by
  rw [Rat.sub_eq_add_neg]
  exact ha.add hb.neg
theorem Fx.mul {D E N M : Nat} {a b : Rat} (ha : Fx D N a) (hb : Fx E M b) : Fx (D * E) (N * M) (a * b) := by
  obtain ⟨m, e, hm⟩ := ha
  obtain ⟨k, e2, hk⟩ := hb
  refine ⟨m * k, ?_, by rw [Int.natAbs_mul]; exact Nat.mul_le_mul hm hk⟩
  rw [Rat.intCast_mul, ← e, ← e2, Rat.natCast_mul]
  grind
theorem Fx.lift {D N : Nat} {a : Rat} (k : Nat) (ha : Fx D N a) : Fx (D * k) (N * k) a := by
  obtain ⟨m, e, hm⟩ := ha
  refine ⟨m * (k : Int), ?_, by rw [Int.natAbs_mul, Int.natAbs_natCast]; exact Nat.mul_le_mul_right _ hm⟩
  rw [Rat.intCast_mul, ← e, Rat.natCast_mul]
  have : ((k : Int) : Rat) = (k : Rat) := rfl
  rw [this]
  grind
theorem Fx.zero (D N : Nat) : Fx D N 0 := ⟨0, by rw [Rat.zero_mul]; rfl, Nat.zero_le _⟩
theorem Fx.one (D : Nat) : Fx D D 1 := ⟨(D : Int), by rw [Rat.one_mul]; rfl, by omega⟩

end P55

set_option Elab.async false
set_option linter.all false
set_option maxRecDepth 100000
set_option maxHeartbeats 4000000
/-! A drawn rule that reads some cells. -/
namespace P55
open PySem PySem.Spec PyProof.Rows L2 Zd
/-- a rule: what is told, the factors -/
abbrev Ru := Rat × List Rat
def ruD (r : Ru) : PyData := .tuple [fr r.1, .tuple (r.2.map fr)]
def ceD (c : List Ru) : PyData := .tuple (c.map ruD)
def gbD (B : List (List Ru)) : PyData := .tuple (B.map ceD)
/-- a drawn rule over n cells -/
structure WR (n : Nat) (r : Ru) : Prop where
  told : Told r.1
  len : r.2.length = n
  bd : ∀ q ∈ r.2, Bd 1200 6000 q
structure WC (n : Nat) (c : List Ru) : Prop where
  pos : 1 ≤ c.length
  most : c.length ≤ 4
  ru : ∀ r ∈ c, WR n r
structure WB (B : List (List Ru)) : Prop where
  pos : 1 ≤ B.length
  most : B.length ≤ 5
  ce : ∀ c ∈ B, WC B.length c
theorem sum_bd : ∀ (ms : List Int), (∀ z ∈ ms, 0 ≤ z ∧ z ≤ 3) → 0 ≤ ms.sum ∧ ms.sum ≤ 3 * ms.length
  | [], _ => by simp
  | m :: r, h => by
    have h1 := h m (by simp)
    have h2 := sum_bd r fun z hz => h z (by simp [hz])
    rw [List.sum_cons, List.length_cons]
    omega
theorem set_ints (ms : List Int) (j : Nat) (v : Int) : (ms.map PyData.int).set j (.int v) = (ms.set j v).map .int := by
  rw [List.map_set]
theorem ixN_at {n j : Nat} (h : j < n) : ixN n (j : Int) = some j := by
  unfold ixN
  rw [if_pos (by omega), if_pos (by omega)]
  simp
/-- the marks are drawn -/
theorem marks_ok {l k n : Nat} {μ : Store} {x1 x2 x3 : D} {e7 e8 e9 e10 : Option D} (hb : BagAt l k μ) (hk : k ≤ 800000) (hn : n ≤ 9) {L : List Nat} (hL : ∀ i ∈ L, i < n) (hl : L.length ≤ 9) :
    ∃ (μ' : Store) (ms : List Int) (e6 : Option D), p_law_shared_rule_1 [some (.ref l), some x1, some x2, some x3, some (.pd (.list (L.map fun (i : Nat) => .int (i : Int)))), some (.ref μ.length), none, e7, e8, e9, e10] (μ ++ [.lst ((List.replicate n (0 : Int)).map .int)]) =
      .ok ((.nx, [some (.ref l), some x1, some x2, some x3, some (.pd (.list (L.map fun (i : Nat) => .int (i : Int)))), some (.ref μ.length), none, e7, e8, e9, e10]), μ' ++ [.lst (ms.map .int)]) ∧ Dr l μ μ' ∧ BagAt l (k + 9) μ' ∧ ms.length = n ∧ ∀ z ∈ ms, 0 ≤ z ∧ z ≤ 3 := by
  have lt := hb.lt
  have hi : iLst (eVar 4) [some (.ref l), some x1, some x2, some x3, some (.pd (.list (L.map fun (i : Nat) => .int (i : Int)))), some (.ref μ.length), none, e7, e8, e9, e10] (μ ++ [.lst ((List.replicate n (0 : Int)).map .int)]) = .ok (((L.map fun (i : Nat) => PyData.int (i : Int)).map .pd, []), μ ++ [.lst ((List.replicate n (0 : Int)).map .int)]) := by simp [iLst, srcL]
  obtain ⟨env', S, q1, rfl, μ', ms, rfl, d1, b1, l1, z1⟩ := for_rel (T := .nm 6) (b := p_law_shared_rule_1_bx) (fun j env S => env = [some (.ref l), some x1, some x2, some x3, some (.pd (.list (L.map fun (i : Nat) => .int (i : Int)))), some (.ref μ.length), none, e7, e8, e9, e10] ∧ ∃ (μ' : Store) (ms : List Int), S = μ' ++ [.lst (ms.map .int)] ∧ Dr l μ μ' ∧ BagAt l (k + j) μ' ∧ ms.length = n ∧ ∀ z ∈ ms, 0 ≤ z ∧ z ≤ 3) hi
    ⟨rfl, μ, _, rfl, .refl hb, hb, by simp, fun z hz => by rw [List.eq_of_mem_replicate hz]; decide⟩ (fun _ _ _ _ => held_nil) (fun j d env S hd hP => by
    obtain ⟨rfl, μ', ms, rfl, d1, b1, l1, z1⟩ := hP
    rw [List.map_map] at hd
    simp only [List.getElem?_map, Option.map_eq_some_iff] at hd
    obtain ⟨i, hx, rfl⟩ := hd
    have hj := (List.getElem?_eq_some_iff.mp hx).1
    have hin := hL i (List.mem_of_getElem? hx)
    have lm := d1.len
    obtain ⟨S2, v, e2, d2, b2, v0, v1⟩ := take_ok (b1.app (ex := [.lst (ms.map .int)]) (by simp [isLls])) (by omega) (m := 3) (by decide) (by decide)
    obtain ⟨μ2, rfl, d3⟩ := d2.app (by omega)
    have lm2 := d3.len
    have g2 : (μ2 ++ [Cell.lst (ms.map .int)])[μ.length]? = some (.lst (ms.map .int)) := by rw [← lm, ← lm2]; simp
    have g3 : ∀ c, (μ2 ++ [Cell.lst (ms.map .int)]).set μ.length c = μ2 ++ [c] := fun c => by rw [← lm, ← lm2]; simp
    have g4 : ixN (ms.map PyData.int).length (i : Int) = some i := ixN_at (by rw [List.length_map, l1]; exact hin)
    rw [List.length_map] at g4
    refine ⟨[some (.ref l), some x1, some x2, some x3, some (.pd (.list (L.map fun (i : Nat) => .int (i : Int)))), some (.ref μ.length), some (.pd (.int (i : Int))), e7, e8, e9, e10], _, _, by simp [bindT], .inl ?_, rfl, μ2, ms.set i (1 + v), rfl, d1.trans d3, b2.unapp (by omega), by simp [l1], fun z hz => ?_⟩
    · simp -implicitDefEqProofs [p_law_shared_rule_1_bx, p_law_shared_rule_1_b, g2, g3, g4, e2, wipeE, List.map_set]
    · rcases List.mem_or_eq_of_mem_set hz with q | q
      · exact z1 z q
      · omega)
  rw [List.length_map, List.length_map] at b1
  exact ⟨μ', ms, none, q1, d1, b1.mono (by omega), l1, z1⟩
end P55

set_option Elab.async false
set_option linter.all false
set_option maxRecDepth 100000
set_option maxHeartbeats 4000000
/-! .. whole. -/
namespace P55
open PySem PySem.Spec PyProof.Rows L2 Zd
theorem h100 : (2 : Nat) ^ 30 < 2 ^ 100 := by decide
theorem cmQ {i j : Int} (h1 : i.natAbs < 2 ^ 30) (h2 : j.natAbs < 2 ^ 30) : CMulW i j := cmS (Nat.lt_trans h1 h100) (Nat.lt_trans h2 h100)
theorem mulB {i j : Int} {a b : Nat} (h1 : i.natAbs ≤ a) (h2 : j.natAbs ≤ b) : (i * j).natAbs ≤ a * b := by
  rw [Int.natAbs_mul]
  exact Nat.mul_le_mul h1 h2
/-- the part of a rule: above, below -/
structure Pa (a b : Int) : Prop where
  a0 : 0 ≤ a
  a1 : a ≤ 99
  b0 : 1 ≤ b
  b1 : b ≤ 100
theorem nine2 {z : Int} (h : z.natAbs ≤ 1000000) : z.natAbs < 2 ^ 9000 := by
  have h : z.natAbs < 2 ^ 20 := Nat.lt_of_le_of_lt h (by decide)
  exact Nat.lt_trans h (Nat.pow_lt_pow_right (by decide) (by decide))
structure Sh (a b sc mk mx so : Int) : Prop where
  p : Pa a b
  sc : 1 ≤ sc ∧ sc ≤ 4
  mq : 0 ≤ mk ∧ mk ≤ 3
  mx : 1 ≤ mx ∧ mx ≤ 15
  so : 1 ≤ so ∧ so ≤ 4
section
variable {a b sc mk mx so : Int}
theorem Sh.num (h : Sh a b sc mk mx so) : (a * sc * mk).natAbs ≤ 1188 := mulB (a := 396) (b := 3) (mulB (a := 99) (b := 4) (by have := h.p.a0; have := h.p.a1; omega) (by have := h.sc; omega)) (by have := h.mq; omega)
theorem Sh.den (h : Sh a b sc mk mx so) : (b * mx * so).natAbs ≤ 6000 := mulB (a := 1500) (b := 4) (mulB (a := 100) (b := 15) (by have := h.p.b0; have := h.p.b1; omega) (by have := h.mx; omega)) (by have := h.so; omega)
theorem Sh.ne (h : Sh a b sc mk mx so) : b * mx * so ≠ 0 := by
  have h1 := h.p.b0
  have h2 := h.mx.1
  have h3 := h.so.1
  exact Int.mul_ne_zero (Int.mul_ne_zero (by omega) (by omega)) (by omega)
theorem Sh.val (h : Sh a b sc mk mx so) : F__law_f [.int (a * sc * mk), .int (b * mx * so)] = .ok (fr (Rat.divInt (a * sc * mk) (b * mx * so))) :=
  F_f_ok h.ne (nine2 (Nat.le_trans h.num (by decide))) (nine2 (Nat.le_trans h.den (by decide)))
theorem Sh.bd (h : Sh a b sc mk mx so) : Bd 1200 6000 (Rat.divInt (a * sc * mk) (b * mx * so)) := Bd.of_divInt h.ne (Nat.le_trans h.num (by decide)) h.den
theorem Sh.cm (h : Sh a b sc mk mx so) : CMulW a sc ∧ CMulW (a * sc) mk ∧ CMulW b mx ∧ CMulW (b * mx) so := by
  have b10 : (2 : Nat) ^ 30 = 1073741824 := by decide
  have p1 := h.p.a0
  have p2 := h.p.a1
  have p3 := h.p.b0
  have p4 := h.p.b1
  have q1 := h.sc
  have q2 := h.mq
  have q3 := h.mx
  have q4 := h.so
  have m1 := mulB (i := a) (j := sc) (a := 99) (b := 4) (by omega) (by omega)
  have m2 := mulB (i := b) (j := mx) (a := 100) (b := 15) (by omega) (by omega)
  refine ⟨cmQ ?_ ?_, cmQ ?_ ?_, cmQ ?_ ?_, cmQ ?_ ?_⟩ <;> rw [b10] <;> omega
end
theorem bd_sm {q : Rat} (h : Bd 1200 6000 q) : Sm q := h.sm (two400 (Nat.le_trans (by decide : 1200 ≤ 2 ^ 20) (Nat.pow_le_pow_right (by decide) (by decide)))) (two400 (Nat.le_trans (by decide : 6000 ≤ 2 ^ 20) (Nat.pow_le_pow_right (by decide) (by decide))))
theorem sm_one : Sm (1 : Rat) := sm1
theorem by_sign {q : Rat} (h : Bd 1200 6000 q) {d : PyData} (hd : d ∈ ([.tuple [.int 1, .int 1], .tuple [.int 1, .int 1], .tuple [.int (-1), .int 1]] : List PyData)) : ∃ p, F__law_by [fr q, d] = .ok (fr p) ∧ Bd 1200 6000 p := by
  have hs := bd_sm h
  have h1 : PyData.tuple [.int 1, .int 1] = fr 1 := rfl
  have h2 : PyData.tuple [.int (-1), .int 1] = fr (-1) := rfl
  have s1 : Sm (-1 : Rat) := ⟨by show 1 < 2 ^ 4000; exact sm1.1, sm1.2⟩
  have e1 := L_by_ok hs sm1
  have e2 := L_by_ok hs s1
  simp only [List.mem_cons, List.not_mem_nil, or_false] at hd
  have : d = fr 1 ∨ d = fr (-1) := by
    rcases hd with rfl | rfl | rfl
    · exact .inl h1
    · exact .inl h1
    · exact .inr h2
  rcases this with rfl | rfl
  · exact ⟨q * 1, e1, by rw [Rat.mul_one]; exact h⟩
  · exact ⟨q * (-1), e2, h.mul (show Bd 1 1 (-1) from ⟨by decide, by decide⟩)⟩
theorem en_ref {env : Zd.Env} {i p : Nat} {S : Store} {ms : List Int} (hv : env[i]? = some (some (.ref p))) (hp : S[p]? = some (.lst (ms.map .int))) : iEn (eVar i) env S = .ok ((ms.mapIdx fun j z => D.pd (.tuple [.int (j : Nat), .int z]), [(p, .lst (ms.map .int))]), S) := by
  unfold iEn
  rw [v_var i hv]
  have hs : srcA S (.ref p) = some ((ms.map .int).map .pd, [(p, .lst (ms.map .int))]) := by
    show srcL S (.ref p) = _
    simp [srcL, hp]
  simp only [Out.ok_bind, hs, pdAll_of]
  congr 3
  apply List.ext_getElem
  · simp
  · intro j h1 h2
    simp
theorem rep_flat (d : PyData) : ∀ n : Nat, (List.replicate n [d]).flatten = List.replicate n d
  | 0 => rfl
  | n + 1 => by
    rw [List.replicate_succ, List.flatten_cons, rep_flat d n]
    rfl
theorem pw63 : (2 : Int) ^ 63 = 9223372036854775808 := by rfl
theorem in63 {n : Nat} (h : n ≤ 1000) : -(2 ^ 63) ≤ (n : Int) ∧ (n : Int) < 2 ^ 63 := by
  rw [pw63]
  omega
theorem gMul_at (d : PyData) (k : Int) : gMul (.list [d]) (.int k) = if -(2 ^ 63) ≤ k ∧ k < 2 ^ 63 ∧ 1 * k.toNat ≤ sizeLine then some (List.replicate k.toNat [d]).flatten else none := rfl
theorem gMul_ok {d : PyData} {n : Nat} (h : n ≤ 1000) : gMul (.list [d]) (.int (n : Int)) = some (List.replicate n d) := by
  have hs : 1 * (n : Int).toNat ≤ sizeLine := by
    rw [Int.toNat_natCast, Nat.one_mul]
    exact sizeLine_ge h
  refine (gMul_at d n).trans ((if_pos ⟨(in63 h).1, (in63 h).2, hs⟩).trans ?_)
  rw [Int.toNat_natCast, rep_flat]
theorem new2_ok {f : G2} {a b : EvE} {env : Zd.Env} {μ μ1 μ2 : Store} {x y : PyData} {z : List PyData} (ha : a env μ = .ok (.pd x, μ1)) (hb : b env μ1 = .ok (.pd y, μ2)) (h : f x y = some z) : eNew2 f a b env μ = .ok (z, μ2) := by
  rw [v_new2, ha, Out.ok_bind, hb]
  simp [h]
theorem shared_ok {l k n c : Nat} {μ : Store} (hb : BagAt l k μ) (hk : k ≤ 700000) (hn : n ≤ 5) {ss : List Int} (hs : ss.length = n) (hs1 : ∀ z ∈ ss, 1 ≤ z ∧ z ≤ 4) (hc : c < n) {a b : Int} (hp : Pa a b) {L : List Nat} (hL : ∀ i ∈ L, i < n) (hl : L.length ≤ 9) :
    ∃ (μ' : Store) (r : Ru), F__law_shared_rule [.ref l, .pd (.int (c : Int)), .pd (.list (ss.map .int)), .pd (.tuple [.int a, .int b]), .pd (.list (L.map fun (i : Nat) => .int (i : Int)))] μ = .ok (.pd (ruD r), μ') ∧ Dr l μ μ' ∧ BagAt l (k + 20) μ' ∧ WR n r := by
  have lt := hb.lt
  have hsc := hs1 _ (List.getElem_mem (show c < ss.length by omega))
  have ac : atI (ss.map PyData.int) (c : Int) = some (.int ss[c]) := by rw [at_nat]; simp [hs, hc]
  obtain ⟨μ1, ms, e6, q1, d1, b1, l1, z1⟩ := marks_ok (n := n) (x1 := .pd (.int (c : Int))) (x2 := .pd (.list (ss.map .int))) (x3 := .pd (.tuple [.int a, .int b])) (e7 := none) (e8 := none) (e9 := none) (e10 := none) hb (by omega) (by omega) hL hl
  have lm1 := d1.len
  have hrep : (List.replicate n [PyData.int 0]).flatten = (List.replicate n (0 : Int)).map .int := by
    have : ∀ m, (List.replicate m [PyData.int 0]).flatten = (List.replicate m (0 : Int)).map .int := fun m => by
      induction m with
      | zero => rfl
      | succ m ih => rw [List.replicate_succ, List.flatten_cons, ih, List.replicate_succ]; rfl
    exact this n
  have s0 : p_law_shared_rule_0 [some (.ref l), some (.pd (.int (c : Int))), some (.pd (.list (ss.map .int))), some (.pd (.tuple [.int a, .int b])), some (.pd (.list (L.map fun (i : Nat) => .int (i : Int)))), none, none, none, none, none, none] μ = .ok ((.nx, [some (.ref l), some (.pd (.int (c : Int))), some (.pd (.list (ss.map .int))), some (.pd (.tuple [.int a, .int b])), some (.pd (.list (L.map fun (i : Nat) => .int (i : Int)))), some (.ref μ.length), none, none, none, none, none]), μ ++ [.lst ((List.replicate n (0 : Int)).map .int)]) := by
    have hm := gMul_ok (d := .int 0) (n := n) (by omega)
    have h3 : eNew2 gMul (eFrz (eLst (aCons (eC (.int 0)) aNil))) (eCall fLen (aCons (eVar 2) aNil)) [some (.ref l), some (.pd (.int (c : Int))), some (.pd (.list (ss.map .int))), some (.pd (.tuple [.int a, .int b])), some (.pd (.list (L.map fun (i : Nat) => .int (i : Int)))), none, none, none, none, none, none] μ = .ok (List.replicate n (.int 0), μ) := new2_ok (μ1 := μ) (x := .list [.int 0]) (y := .int (n : Int)) (by simp [sz]) (by simp [hs]) hm
    have e : List.replicate n (PyData.int 0) = (List.replicate n (0 : Int)).map .int := by rw [List.map_replicate]
    unfold p_law_shared_rule_0
    rw [v_set, v_own, h3, e]
    rfl
  have hw := sum_bd ms z1
  have s2 : p_law_shared_rule_2 [some (.ref l), some (.pd (.int (c : Int))), some (.pd (.list (ss.map .int))), some (.pd (.tuple [.int a, .int b])), some (.pd (.list (L.map fun (i : Nat) => .int (i : Int)))), some (.ref μ.length), none, none, none, none, none] (μ1 ++ [.lst (ms.map .int)]) =
      .ok ((.nx, [some (.ref l), some (.pd (.int (c : Int))), some (.pd (.list (ss.map .int))), some (.pd (.tuple [.int a, .int b])), some (.pd (.list (L.map fun (i : Nat) => .int (i : Int)))), some (.ref μ.length), none, some (.pd (.int ms.sum)), some (.ref (μ.length + 1)), none, none]), μ1 ++ [.lst (ms.map .int), .lst []]) := by
    have hd : deref (μ1 ++ [Cell.lst (ms.map .int)]) (.ref μ.length) = some (.list (ms.map .int)) := dreff _ _ _ (by rw [← lm1]; simp)
    have hf : fSum [.list (ms.map .int)] = some (.int ms.sum) := by simp [fSum]
    simp -implicitDefEqProofs [p_law_shared_rule_2, bindTs, bindT, derefs, hd, hf, sz, lm1]
  obtain ⟨mx, hmx⟩ : ∃ mx : Int, mx = if 1 > ms.sum then 1 else ms.sum := ⟨_, rfl⟩
  have hmx1 : 1 ≤ mx ∧ mx ≤ 15 := by
    rw [hmx]
    split <;> omega
  -- one factor
  have step : ∀ (j : Nat) (μ' : Store) (fs : List Rat), j < n → Dr l μ μ' → BagAt l (k + 9 + j) μ' → fs.length = j →
      ∃ (μ2 : Store) (q : Rat), p_law_shared_rule_3_b [some (.ref l), some (.pd (.int (c : Int))), some (.pd (.list (ss.map .int))), some (.pd (.tuple [.int a, .int b])), some (.pd (.list (L.map fun (i : Nat) => .int (i : Int)))), some (.ref μ.length), some (.pd (.int (j : Int))), some (.pd (.int ms.sum)), some (.ref (μ.length + 1)), some (.pd (.int (ms.getD j 0))), none] (μ' ++ [.lst (ms.map .int), .lst (fs.map fr)]) =
        .ok ((.nx, [some (.ref l), some (.pd (.int (c : Int))), some (.pd (.list (ss.map .int))), some (.pd (.tuple [.int a, .int b])), some (.pd (.list (L.map fun (i : Nat) => .int (i : Int)))), some (.ref μ.length), none, some (.pd (.int ms.sum)), some (.ref (μ.length + 1)), none, none]), μ2 ++ [.lst (ms.map .int), .lst ((fs ++ [q]).map fr)]) ∧ Dr l μ' μ2 ∧ BagAt l (k + 9 + (j + 1)) μ2 ∧ Bd 1200 6000 q := by
    intro j μ' fs hj d' b' lf
    have lm := d'.len
    have so := hs1 _ (List.getElem_mem (show j < ss.length by omega))
    have ao : atI (ss.map PyData.int) (j : Int) = some (.int ss[j]) := by rw [at_nat]; simp [hs, hj]
    have mk : 0 ≤ ms.getD j 0 ∧ ms.getD j 0 ≤ 3 := by
      rw [List.getD_eq_getElem?_getD, List.getElem?_eq_getElem (by omega)]
      exact z1 _ (List.getElem_mem _)
    have S : Sh a b ss[c] (ms.getD j 0) mx ss[j] := ⟨hp, hsc, mk, hmx1, so⟩
    obtain ⟨c1, c2, c3, c4⟩ := S.cm
    have sv := S.val
    obtain ⟨S2, d, e2, d2, b2, hd⟩ := some_ok (b'.app (ex := [.lst (ms.map .int), .lst (fs.map fr)]) (by simp [isLls])) (by omega) (ds := [.tuple [.int 1, .int 1], .tuple [.int 1, .int 1], .tuple [.int (-1), .int 1]]) (by decide) (by decide)
    obtain ⟨μ2, rfl, d3⟩ := d2.app (by omega)
    obtain ⟨q, eq, bq⟩ := by_sign S.bd hd
    have lm2 := d3.len
    have g0 : (μ' ++ [Cell.lst (ms.map .int), .lst (fs.map fr)])[μ.length + 1]? = some (.lst (fs.map fr)) := by rw [← lm]; simp
    have g1 : (μ2 ++ [Cell.lst (ms.map .int), .lst (fs.map fr)])[μ.length + 1]? = some (.lst (fs.map fr)) := by rw [← lm, ← lm2]; simp
    have g3 : ∀ x, (μ2 ++ [Cell.lst (ms.map .int), .lst (fs.map fr)]).set (μ.length + 1) x = μ2 ++ [.lst (ms.map .int), x] := fun x => by rw [← lm, ← lm2]; simp
    have hz : fs.length < sizeLine := szl' (by omega)
    have hmx2 : fMax2 [.int ms.sum, .int 1] = some (.int mx) := by rw [hmx]; rfl
    refine ⟨μ2, q, ?_, d3, (b2.unapp (by omega)).mono (by omega), bq⟩
    have a0 : p_law_shared_rule_3_b_0 [some (.ref l), some (.pd (.int (c : Int))), some (.pd (.list (ss.map .int))), some (.pd (.tuple [.int a, .int b])), some (.pd (.list (L.map fun (i : Nat) => .int (i : Int)))), some (.ref μ.length), some (.pd (.int (j : Int))), some (.pd (.int ms.sum)), some (.ref (μ.length + 1)), some (.pd (.int (ms.getD j 0))), none] (μ' ++ [.lst (ms.map .int), .lst (fs.map fr)]) =
        .ok ((.nx, [some (.ref l), some (.pd (.int (c : Int))), some (.pd (.list (ss.map .int))), some (.pd (.tuple [.int a, .int b])), some (.pd (.list (L.map fun (i : Nat) => .int (i : Int)))), some (.ref μ.length), some (.pd (.int (j : Int))), some (.pd (.int ms.sum)), some (.ref (μ.length + 1)), some (.pd (.int (ms.getD j 0))), some (.pd (fr (Rat.divInt (a * ss[c] * ms.getD j 0) (b * mx * ss[j]))))]), μ' ++ [.lst (ms.map .int), .lst (fs.map fr)]) := by
      simp -implicitDefEqProofs only [p_law_shared_rule_3_b_0, v_set, v_callP, v_acons, v_anil, v_op2, v_ix, v_call, v_C, Out.ok_bind, v_asI, v_ixT, v_ixL, at_0, at_1, ac, ao, deref_pd, v_mulI, c1, c2, c3, c4, if_true, v_derefs1, v_derefs0, Option.map_some, hmx2, sv, bindT, List.all_cons, v_isVal, List.all_nil, Bool.and_true, Bool.true_or,
        v_var 3 (d := .pd (.tuple [.int a, .int b])), v_var 2 (d := .pd (.list (ss.map .int))), v_var 1 (d := .pd (.int (c : Int))), v_var 9 (d := .pd (.int (ms.getD j 0))), v_var 7 (d := .pd (.int ms.sum)), v_var 6 (d := .pd (.int (j : Int))), List.getElem?_cons_succ, List.getElem?_cons_zero]
      rfl
    have a1 : p_law_shared_rule_3_b_1 [some (.ref l), some (.pd (.int (c : Int))), some (.pd (.list (ss.map .int))), some (.pd (.tuple [.int a, .int b])), some (.pd (.list (L.map fun (i : Nat) => .int (i : Int)))), some (.ref μ.length), some (.pd (.int (j : Int))), some (.pd (.int ms.sum)), some (.ref (μ.length + 1)), some (.pd (.int (ms.getD j 0))), some (.pd (fr (Rat.divInt (a * ss[c] * ms.getD j 0) (b * mx * ss[j]))))] (μ' ++ [.lst (ms.map .int), .lst (fs.map fr)]) =
        .ok ((.nx, [some (.ref l), some (.pd (.int (c : Int))), some (.pd (.list (ss.map .int))), some (.pd (.tuple [.int a, .int b])), some (.pd (.list (L.map fun (i : Nat) => .int (i : Int)))), some (.ref μ.length), some (.pd (.int (j : Int))), some (.pd (.int ms.sum)), some (.ref (μ.length + 1)), some (.pd (.int (ms.getD j 0))), some (.pd (fr (Rat.divInt (a * ss[c] * ms.getD j 0) (b * mx * ss[j]))))]), μ2 ++ [.lst (ms.map .int), .lst ((fs ++ [q]).map fr)]) := by
      generalize fr (Rat.divInt (a * ss[c] * ms.getD j 0) (b * mx * ss[j])) = y at *
      simp -implicitDefEqProofs [p_law_shared_rule_3_b_1, g0, g1, g3, e2, eq, sz, hz]
    unfold p_law_shared_rule_3_b
    rw [v_forget, seq_nx a0, a1]
    rfl
  have hp1 : (μ1 ++ [Cell.lst (ms.map .int), .lst []])[μ.length]? = some (.lst (ms.map .int)) := by rw [← lm1]; simp
  obtain ⟨env', S, q3, rfl, μ3, fs, rfl, d3, b3, lf, bf⟩ := for_rel (T := .tp [(.nm 6), (.nm 9)]) (b := p_law_shared_rule_3_b) (ei := iEn (eVar 5)) (env := [some (.ref l), some (.pd (.int (c : Int))), some (.pd (.list (ss.map .int))), some (.pd (.tuple [.int a, .int b])), some (.pd (.list (L.map fun (i : Nat) => .int (i : Int)))), some (.ref μ.length), none, some (.pd (.int ms.sum)), some (.ref (μ.length + 1)), none, none]) (μ := μ1 ++ [.lst (ms.map .int), .lst []])
    (fun j env S => env = [some (.ref l), some (.pd (.int (c : Int))), some (.pd (.list (ss.map .int))), some (.pd (.tuple [.int a, .int b])), some (.pd (.list (L.map fun (i : Nat) => .int (i : Int)))), some (.ref μ.length), none, some (.pd (.int ms.sum)), some (.ref (μ.length + 1)), none, none] ∧ ∃ (μ' : Store) (fs : List Rat), S = μ' ++ [.lst (ms.map .int), .lst (fs.map fr)] ∧ Dr l μ μ' ∧ BagAt l (k + 9 + j) μ' ∧ fs.length = j ∧ ∀ q ∈ fs, Bd 1200 6000 q)
    (en_ref (i := 5) rfl hp1) ⟨rfl, μ1, [], rfl, d1, b1, rfl, by simp⟩ (fun j env S hP => by
      obtain ⟨rfl, μ', fs, rfl, d', _⟩ := hP
      intro q hq
      simp only [List.mem_singleton] at hq
      subst hq
      show (μ' ++ [Cell.lst (ms.map .int), .lst (fs.map fr)])[μ.length]? = _
      rw [← d'.len]
      simp) (fun j d env S hd hP => by
      obtain ⟨rfl, μ', fs, rfl, d', b', lf, bf⟩ := hP
      rw [List.getElem?_mapIdx, Option.map_eq_some_iff] at hd
      obtain ⟨z, hz, rfl⟩ := hd
      have hj := (List.getElem?_eq_some_iff.mp hz).1
      have ez : z = ms.getD j 0 := by rw [List.getD_eq_getElem?_getD, hz]; rfl
      obtain ⟨μ2, q, e1, d2, b2, bq⟩ := step j μ' fs (by omega) d' b' lf
      rw [ez]
      exact ⟨_, _, _, by simp [bindT, bindTs], .inl e1, rfl, μ2, fs ++ [q], rfl, d'.trans d2, b2, by simp [lf], fun y hy => by
        rcases List.mem_append.mp hy with h | h
        · exact bf y h
        · rw [List.mem_singleton.mp h]
          exact bq⟩)
  rw [List.length_mapIdx] at b3 lf
  have lm3 := d3.len
  obtain ⟨S4, q, e4, d4, b4, tq⟩ := told_ok (b3.app (ex := [.lst (ms.map .int), .lst (fs.map fr)]) (by simp [isLls])) (by omega)
  obtain ⟨μ4, rfl, d5⟩ := d4.app (by omega)
  have lm4 := d5.len
  have g4 : deref (μ4 ++ [Cell.lst (ms.map .int), .lst (fs.map fr)]) (.ref (μ.length + 1)) = some (.list (fs.map fr)) := dreff _ _ _ (by rw [← lm3, ← lm4]; simp)
  have s4 : p_law_shared_rule_4 [some (.ref l), some (.pd (.int (c : Int))), some (.pd (.list (ss.map .int))), some (.pd (.tuple [.int a, .int b])), some (.pd (.list (L.map fun (i : Nat) => .int (i : Int)))), some (.ref μ.length), none, some (.pd (.int ms.sum)), some (.ref (μ.length + 1)), none, none] (μ3 ++ [.lst (ms.map .int), .lst (fs.map fr)]) =
      .ok ((.rt (.pd (ruD (q, fs))), [some (.ref l), some (.pd (.int (c : Int))), some (.pd (.list (ss.map .int))), some (.pd (.tuple [.int a, .int b])), some (.pd (.list (L.map fun (i : Nat) => .int (i : Int)))), some (.ref μ.length), none, some (.pd (.int ms.sum)), some (.ref (μ.length + 1)), none, none]), μ4 ++ [.lst (ms.map .int), .lst (fs.map fr)]) := by
    simp -implicitDefEqProofs [p_law_shared_rule_4, e4, derefs, g4, sz, ruD]
  have b6 : BagAt l (k + 20) μ4 := (b4.unapp (by omega)).mono (by omega)
  have d6 := d3.trans d5
  exact ⟨μ4, (q, fs), fnS_pd (fnL_run ((congrFun (congrFun parts_law_shared_rule _) _).trans ((seq_nx s0).trans ((seq_nx q1).trans ((seq_nx s2).trans ((seq_nx q3).trans s4))))) rfl) d6 b6, d6, b6, tq, (show fs.length = n by omega), bf⟩
end P55

set_option Elab.async false
set_option linter.all false
set_option maxRecDepth 100000
set_option maxHeartbeats 4000000
/-! Light books drawn. -/
namespace P55
open PySem PySem.Spec PyProof.Rows L2 Zd
theorem all_ints {P : Int → Prop} : ∀ {xs : List PyData}, (∀ x ∈ xs, ∃ z, x = .int z ∧ P z) → ∃ zs : List Int, xs = zs.map .int ∧ zs.length = xs.length ∧ ∀ z ∈ zs, P z
  | [], _ => ⟨[], rfl, rfl, by simp⟩
  | x :: r, h => by
    obtain ⟨z, rfl, pz⟩ := h x (by simp)
    obtain ⟨zs, rfl, l, p⟩ := all_ints (xs := r) fun y hy => h y (by simp [hy])
    exact ⟨z :: zs, rfl, by simp, fun w hw => by
      rcases List.mem_cons.mp hw with rfl | hw
      · exact pz
      · exact p w hw⟩
theorem all_frs {P : Rat → Prop} : ∀ {xs : List PyData}, (∀ x ∈ xs, ∃ z, x = fr z ∧ P z) → ∃ zs : List Rat, xs = zs.map fr ∧ zs.length = xs.length ∧ ∀ z ∈ zs, P z
  | [], _ => ⟨[], rfl, rfl, by simp⟩
  | x :: r, h => by
    obtain ⟨z, rfl, pz⟩ := h x (by simp)
    obtain ⟨zs, rfl, l, p⟩ := all_frs (xs := r) fun y hy => h y (by simp [hy])
    exact ⟨z :: zs, rfl, by simp, fun w hw => by
      rcases List.mem_cons.mp hw with rfl | hw
      · exact pz
      · exact p w hw⟩
/-- sizes: 1 to m, one for each of n -/
theorem size_elt {l k m : Nat} {μ : Store} {env : Zd.Env} (h0 : env[0]? = some (some (.ref l))) (hm : 1 ≤ m) (hm2 : m ≤ 1000) (b : BagAt l k μ) (hk : k ≤ 900000) : ∃ (μ' : Store) (x : PyData), eAdd (eC (.int 1)) (eCallS F__law_take (aCons (eVar 0) (aCons (eC (.int (m : Int))) aNil))) env μ = .ok (.pd x, μ') ∧ Dr l μ μ' ∧ BagAt l (k + 1) μ' ∧ ∃ z, x = .int z ∧ 1 ≤ z ∧ z ≤ m := by
  obtain ⟨μ1, v, e1, d1, b1, v0, v1⟩ := take_ok b (by omega) (m := (m : Int)) (by omega) (by omega)
  exact ⟨μ1, .int (1 + v), by simp -implicitDefEqProofs [v_var 0 h0, e1], d1, b1, 1 + v, rfl, by omega, by omega⟩
/-- a comprehension of drawn items over range(n) -/
theorem lc_draw {l a v n k : Nat} {elt : EvE} {env : Zd.Env} {μ : Store} {ea : EvE} {P : PyData → Prop} (hv : v < env.length) (he : ea env μ = .ok (.pd (.int (n : Int)), μ)) (hn : n ≤ 100) (hk : k + a * n ≤ 900000) (hb : BagAt l k μ)
    (hl : ∀ (d : D) (k : Nat) (μ : Store), k ≤ 900000 → BagAt l k μ → ∃ (μ' : Store) (x : PyData), elt ((wipeE env [v]).set v (some d)) μ = .ok (.pd x, μ') ∧ Dr l μ μ' ∧ BagAt l (k + a) μ' ∧ P x) :
    ∃ (μ' : Store) (xs : List PyData), eLcD [v] (.nm v) (iRg1 ea) tYesE elt env μ = .ok (xs.map .pd, μ') ∧ Dr l μ μ' ∧ BagAt l (k + a * n) μ' ∧ xs.length = n ∧ ∀ x ∈ xs, P x := by
  have hw : v < (wipeE env [v]).length := by simpa [wipeE] using hv
  obtain ⟨μ', xs, e1, d1, b1, l1, p1⟩ := comp_draw hw hl ((List.range n).map fun (k : Nat) => D.pd (.int (k : Int))) k μ (by rw [List.length_map, List.length_range]; exact hk) hb
  rw [List.length_map, List.length_range] at b1 l1
  exact ⟨μ', xs, lcD_eq (rg1_ok he (by omega)) (by rw [List.length_map, List.length_range]; exact sz (by omega)) e1, d1, b1, l1, p1⟩
theorem sub_lt {L : List Nat} {n : Nat} (h : L.Sublist (List.range n)) : (∀ i ∈ L, i < n) ∧ L.length ≤ n := ⟨fun i hi => by simpa using h.subset hi, by simpa using h.length_le⟩
def lightParts : List PyData := [.tuple [.int 1, .int 2], .tuple [.int 2, .int 3], .tuple [.int 9, .int 10], .tuple [.int 3, .int 4], .tuple [.int 99, .int 100], .tuple [.int 0, .int 1]]
theorem light_part : ∀ d ∈ lightParts, ∃ a b : Int, d = .tuple [.int a, .int b] ∧ Pa a b := by
  intro d hd
  simp only [lightParts, List.mem_cons, List.not_mem_nil, or_false] at hd
  rcases hd with rfl | rfl | rfl | rfl | rfl | rfl <;> exact ⟨_, _, rfl, by decide, by decide, by decide, by decide⟩
abbrev LE (l n : Nat) (y1 : D) (ss : List Int) (bk : Nat) (e5 e6 e7 e8 e9 e10 : Option D) : Zd.Env := [some (.ref l), some y1, some (.pd (.int (n : Int))), some (.pd (.list (ss.map .int))), some (.ref bk), e5, e6, e7, e8, e9, e10]
theorem light_rule {l k n c bk : Nat} {μ : Store} {y1 : D} {e7 e9 e10 : Option D} (hb : BagAt l k μ) (hk : k ≤ 600000) (hn : n ≤ 5) {ss : List Int} (hs : ss.length = n) (hs1 : ∀ z ∈ ss, 1 ≤ z ∧ z ≤ 4) (hc : c < n) {rs : List Ru} (hr : rs.length ≤ 10) :
    ∃ (μ' : Store) (r : Ru), p_law_light_book_2_b_1_b (LE l n y1 ss bk (some (.pd (.int (c : Int)))) (some (.ref μ.length)) e7 none e9 e10) (μ ++ [.lst (rs.map ruD)]) =
      .ok ((.nx, LE l n y1 ss bk (some (.pd (.int (c : Int)))) (some (.ref μ.length)) none none e9 e10), μ' ++ [.lst ((rs ++ [r]).map ruD)]) ∧ Dr l μ μ' ∧ BagAt l (k + 40) μ' ∧ WR n r := by
  have lt := hb.lt
  obtain ⟨S1, d, e1, d1, b1, hd⟩ := some_ok (hb.app (ex := [.lst (rs.map ruD)]) (by simp [isLls])) (by omega) (ds := lightParts) (by decide) (by decide)
  obtain ⟨a, b, rfl, hp⟩ := light_part d hd
  obtain ⟨S2, L, e2, d2, b2, hL⟩ := cells_ok (n := n) b1 (by omega) (by omega)
  obtain ⟨hL1, hL2⟩ := sub_lt hL
  obtain ⟨S3, r, e3, d3, b3, hr3⟩ := shared_ok b2 (by omega) hn hs hs1 hc hp hL1 (by omega)
  obtain ⟨μ3, rfl, d4⟩ := ((d1.trans d2).trans d3).app lt
  have lm := d4.len
  have g : (μ3 ++ [Cell.lst (rs.map ruD)])[μ.length]? = some (.lst (rs.map ruD)) := by rw [← lm]; simp
  have g0 : S1[μ.length]? = some (.lst (rs.map ruD)) := by
    obtain ⟨μ1, rfl, d5⟩ := d1.app lt
    rw [← d5.len]; simp
  have g3 : ∀ x, (μ3 ++ [Cell.lst (rs.map ruD)]).set μ.length x = μ3 ++ [x] := fun x => by rw [← lm]; simp
  have hz : rs.length < sizeLine := szl' (by omega)
  refine ⟨μ3, r, ?_, d4, (b3.unapp (by omega)).mono (by omega), hr3⟩
  simp only [lightParts] at e1
  simp -implicitDefEqProofs [p_law_light_book_2_b_1_b, p_law_light_book_2_b_1_b_0, p_law_light_book_2_b_1_b_1, e1, e2, e3, sz, bindT, g, g0, g3, hz, wipeE]
end P55

set_option Elab.async false
set_option linter.all false
set_option maxRecDepth 100000
set_option maxHeartbeats 4000000
/-! Light books drawn, whole. -/
namespace P55
open PySem PySem.Spec PyProof.Rows L2 Zd
theorem range_item {n j : Nat} {d : D} (hd : ((List.range n).map fun (k : Nat) => D.pd (.int (k : Int)))[j]? = some d) : j < n ∧ d = .pd (.int (j : Int)) := by
  simp only [List.getElem?_map, Option.map_eq_some_iff] at hd
  obtain ⟨k, hk, rfl⟩ := hd
  obtain ⟨h1, h2⟩ := List.getElem?_eq_some_iff.mp hk
  simp at h1 h2
  subst h2
  exact ⟨h1, rfl⟩
/-- for .. in range(a drawn number): the number is drawn -/
theorem turns_it {l k : Nat} {S : Store} {env : Zd.Env} {es : List Int} {ea : EvA} (h0 : env[0]? = some (some (.ref l))) (hb : BagAt l k S) (hk : k ≤ 900000) (h1 : 0 < es.length) (h2 : es.length ≤ 100) (hz : ∀ z ∈ es, 0 ≤ z ∧ z ≤ 9) (he : eFrz (eLst ea) env S = .ok (.pd (.list (es.map .int)), S)) :
    ∃ (S' : Store) (m : Nat), iRg1 (eCallS F__law_some (aCons (eVar 0) (aCons (eFrz (eLst ea)) aNil))) env S = .ok (((List.range m).map fun (k : Nat) => D.pd (.int (k : Int)), []), S') ∧ Dr l S S' ∧ BagAt l (k + 1) S' ∧ (m : Int) ∈ es := by
  obtain ⟨S1, d, e1, d1, b1, hd⟩ := some_ok hb (by omega) (ds := es.map .int) (by simpa using h1) (by simp; omega)
  obtain ⟨z, hz1, rfl⟩ := List.mem_map.mp hd
  have := hz z hz1
  obtain ⟨m, rfl⟩ := Int.eq_ofNat_of_zero_le this.1
  have hc : eCallS F__law_some (aCons (eVar 0) (aCons (eFrz (eLst ea)) aNil)) env S = .ok (.pd (.int (m : Int)), S1) := by
    have : aCons (eVar 0) (aCons (eFrz (eLst ea)) aNil) env S = .ok ([.ref l, .pd (.list (es.map .int))], S) := by
      rw [v_acons, v_var 0 h0, Out.ok_bind, v_acons, he]
      rfl
    rw [v_callS, this]
    exact e1
  exact ⟨S1, m, rg1_ok hc (by omega), d1, b1, hz1⟩
theorem light_rules {l k n c bk : Nat} {μ : Store} {y1 : D} {e9 e10 : Option D} (hb : BagAt l k μ) (hk : k ≤ 500000) (hn : n ≤ 5) {ss : List Int} (hs : ss.length = n) (hs1 : ∀ z ∈ ss, 1 ≤ z ∧ z ≤ 4) (hc : c < n) :
    ∃ (μ' : Store) (rs : List Ru), p_law_light_book_2_b_1 (LE l n y1 ss bk (some (.pd (.int (c : Int)))) (some (.ref μ.length)) none none e9 e10) (μ ++ [.lst []]) =
      .ok ((.nx, LE l n y1 ss bk (some (.pd (.int (c : Int)))) (some (.ref μ.length)) none none e9 e10), μ' ++ [.lst (rs.map ruD)]) ∧ Dr l μ μ' ∧ BagAt l (k + 200) μ' ∧ WC n rs := by
  have lt := hb.lt
  obtain ⟨S1, m, i1, d1, b1, hm⟩ := turns_it (es := [1, 2, 1, 3]) (ea := aCons (eC (.int 1)) (aCons (eC (.int 2)) (aCons (eC (.int 1)) (aCons (eC (.int 3)) aNil)))) (env := LE l n y1 ss bk (some (.pd (.int (c : Int)))) (some (.ref μ.length)) none none e9 e10) (S := μ ++ [.lst []]) rfl (hb.app (ex := [.lst []]) (by simp [isLls])) (by omega) (by decide) (by decide) (by decide) (by simp [sz])
  obtain ⟨μ1, rfl, d2⟩ := d1.app lt
  have m3 : 1 ≤ m ∧ m ≤ 3 := by
    simp only [List.mem_cons, List.not_mem_nil, or_false] at hm
    omega
  have lm := d2.len
  obtain ⟨env', S, q1, rfl, μ', rs, rfl, d', b', lr, wr⟩ := for_rel (T := .nm 7) (b := p_law_light_book_2_b_1_b) (fun j env S => env = LE l n y1 ss bk (some (.pd (.int (c : Int)))) (some (.ref μ.length)) none none e9 e10 ∧ ∃ (μ' : Store) (rs : List Ru), S = μ' ++ [.lst (rs.map ruD)] ∧ Dr l μ1 μ' ∧ BagAt l (k + 1 + 40 * j) μ' ∧ rs.length = j ∧ ∀ r ∈ rs, WR n r) i1
    ⟨rfl, μ1, [], rfl, .refl (b1.unapp (by omega)), b1.unapp (by omega), rfl, by simp⟩ (fun _ _ _ _ => held_nil) (fun j d env S hd hP => by
    obtain ⟨rfl, μ', rs, rfl, d', b', lr, wr⟩ := hP
    obtain ⟨hj, rfl⟩ := range_item hd
    have e : μ.length = μ'.length := by rw [d'.len, lm]
    obtain ⟨μ2, r, e1, d3, b3, w3⟩ := light_rule (y1 := y1) (bk := bk) (e7 := some (.pd (.int (j : Int)))) (e9 := e9) (e10 := e10) b' (by omega) hn hs hs1 hc (rs := rs) (by omega)
    rw [← e] at e1
    exact ⟨_, _, _, by simp [bindT], .inl e1, rfl, μ2, rs ++ [r], rfl, d'.trans d3, b3.mono (by omega), by simp [lr], fun y hy => by
      rcases List.mem_append.mp hy with h | h
      · exact wr y h
      · rw [List.mem_singleton.mp h]
        exact w3⟩)
  rw [List.length_map, List.length_range] at b' lr
  exact ⟨μ', rs, q1, d2.trans d', b'.mono (by omega), by omega, by omega, wr⟩
/-- one cell -/
theorem light_cell {l k n c bk : Nat} {S : Store} {y1 : D} {e9 e10 : Option D} (hb : BagAt l k S) (hk : k ≤ 500000) (hn : n ≤ 5) {ss : List Int} (hs : ss.length = n) (hs1 : ∀ z ∈ ss, 1 ≤ z ∧ z ≤ 4) (hc : c < n) {cs : List (List Ru)} (hcs : cs.length ≤ 10) (hbk : S[bk]? = some (.lst (cs.map ceD))) (hne : bk ≠ l) :
    ∃ (S' : Store) (rs : List Ru), p_law_light_book_2_b (LE l n y1 ss bk (some (.pd (.int (c : Int)))) none none none e9 e10) S =
      .ok ((.nx, LE l n y1 ss bk none none none none e9 e10), (S'.set bk (.lst ((cs ++ [rs]).map ceD))) ++ [.lst (rs.map ruD)]) ∧ Dr l S S' ∧ BagAt l (k + 200) S' ∧ WC n rs := by
  obtain ⟨S1, rs, e1, d1, b1, w1⟩ := light_rules (y1 := y1) (bk := bk) (e9 := e9) (e10 := e10) hb hk hn hs hs1 hc
  have lm := d1.len
  have hbl : bk < S.length := (List.getElem?_eq_some_iff.mp hbk).1
  have g1 : S1[bk]? = some (.lst (cs.map ceD)) := by
    obtain ⟨x, rfl⟩ := d1
    rw [List.getElem?_set_ne (Ne.symm hne)]
    exact hbk
  have g2 : (S1 ++ [Cell.lst (rs.map ruD)])[bk]? = some (.lst (cs.map ceD)) := by rw [List.getElem?_append_left (by omega)]; exact g1
  have g3 : deref (S1 ++ [Cell.lst (rs.map ruD)]) (.ref S.length) = some (.list (rs.map ruD)) := dreff _ _ _ (by rw [← lm]; simp)
  have g4 : ∀ x, (S1 ++ [Cell.lst (rs.map ruD)]).set bk x = S1.set bk x ++ [.lst (rs.map ruD)] := fun x => List.set_append_left _ _ (by omega)
  have hz : cs.length < sizeLine := szl' (by omega)
  refine ⟨S1, rs, ?_, d1, b1, w1⟩
  have s0 : p_law_light_book_2_b_0 (LE l n y1 ss bk (some (.pd (.int (c : Int)))) none none none e9 e10) S = .ok ((.nx, LE l n y1 ss bk (some (.pd (.int (c : Int)))) (some (.ref S.length)) none none e9 e10), S ++ [.lst []]) := by
    simp [p_law_light_book_2_b_0, bindT, sz]
  have s2 : p_law_light_book_2_b_2 (LE l n y1 ss bk (some (.pd (.int (c : Int)))) (some (.ref S.length)) none none e9 e10) (S1 ++ [.lst (rs.map ruD)]) = .ok ((.nx, LE l n y1 ss bk (some (.pd (.int (c : Int)))) (some (.ref S.length)) none none e9 e10), (S1.set bk (.lst ((cs ++ [rs]).map ceD))) ++ [.lst (rs.map ruD)]) := by
    simp -implicitDefEqProofs [p_law_light_book_2_b_2, g2, g3, g4, derefs, hz, ceD]
  unfold p_law_light_book_2_b
  rw [v_forget, seq_nx s0, seq_nx e1, s2]
  rfl
theorem light_ok {l k : Nat} {μ : Store} {most : Nat} (hm : 1 ≤ most) (hm5 : most ≤ 5) (hb : BagAt l k μ) (hk : k ≤ 400000) :
    ∃ (μ' : Store) (B : List (List Ru)) (x : PyData), F__law_light_book [.ref l, .pd (.int (most : Int))] μ = .ok (.pd (.tuple [gbD B, x]), μ') ∧ Dr l μ μ' ∧ BagAt l (k + 2000) μ' ∧ WB B ∧ B.length ≤ most := by
  have lt := hb.lt
  obtain ⟨μ1, v, e1, d1, b1, v0, v1⟩ := take_ok hb (by omega) (m := (most : Int)) (by omega) (by omega)
  obtain ⟨m, rfl⟩ := Int.eq_ofNat_of_zero_le v0
  obtain ⟨n, hmn⟩ : ∃ n : Nat, n = m + 1 := ⟨_, rfl⟩
  have hn1 : (1 : Int) + (m : Int) = (n : Int) := by omega
  have s0 : p_law_light_book_0 [some (.ref l), some (.pd (.int (most : Int))), none, none, none, none, none, none, none, none, none] μ = .ok ((.nx, [some (.ref l), some (.pd (.int (most : Int))), some (.pd (.int (n : Int))), none, none, none, none, none, none, none, none]), μ1) := by
    simp -implicitDefEqProofs [p_law_light_book_0, e1, bindT, hn1]
  obtain ⟨μ2, xs, e2, d2, b2, l2, p2⟩ := lc_draw (l := l) (a := 1) (v := 9) (n := n) (elt := eAdd (eC (.int 1)) (eCallS F__law_take (aCons (eVar 0) (aCons (eC (.int 4)) aNil)))) (env := [some (.ref l), some (.pd (.int (most : Int))), some (.pd (.int (n : Int))), none, none, none, none, none, none, none, none]) (ea := eVar 2) (P := fun x => ∃ z, x = .int z ∧ 1 ≤ z ∧ z ≤ ((4 : Nat) : Int)) (by decide : 9 < 11) (by simp) (by omega) (by omega) b1 (fun d k' μ hk' b => size_elt (m := 4) rfl (by decide) (by decide) b hk')
  obtain ⟨ss, rfl, hs, hs1⟩ := all_ints p2
  rw [l2] at hs
  have s1 : p_law_light_book_1 [some (.ref l), some (.pd (.int (most : Int))), some (.pd (.int (n : Int))), none, none, none, none, none, none, none, none] μ1 = .ok ((.nx, LE l n (.pd (.int (most : Int))) ss μ2.length none none none none none none), μ2 ++ [.lst []]) := by
    simp -implicitDefEqProofs [p_law_light_book_1, e2, bindTs, bindT, sz]
  have lm2 : μ2.length = μ.length := by rw [d2.len, d1.len]
  have hne : μ2.length ≠ l := by omega
  have b2' : BagAt l (k + 10) μ2 := b2.mono (by omega)
  obtain ⟨env', S, q1, rfl, μ', cs, ex, rfl, d', b', lc, wc, hex⟩ := for_rel (T := .nm 5) (b := p_law_light_book_2_b) (ei := iRg1 (eVar 2)) (env := LE l n (.pd (.int (most : Int))) ss μ2.length none none none none none none) (μ := μ2 ++ [.lst []]) (fun j env S => env = LE l n (.pd (.int (most : Int))) ss μ2.length none none none none none none ∧ ∃ (μ' : Store) (cs : List (List Ru)) (ex : Store), S = μ' ++ (.lst (cs.map ceD) :: ex) ∧ Dr l μ2 μ' ∧ BagAt l (k + 10 + 200 * j) μ' ∧ cs.length = j ∧ (∀ c ∈ cs, WC n c) ∧ ∀ c ∈ ex, isLls c = false)
    (rg1_ok (n := n) rfl (by omega)) ⟨rfl, μ2, [], [], rfl, .refl b2', b2', rfl, by simp, by simp⟩ (fun _ _ _ _ => held_nil) (fun j d env S hd hP => by
    obtain ⟨rfl, μ', cs, ex, rfl, d', b', lc, wc, hex⟩ := hP
    obtain ⟨hj, rfl⟩ := range_item hd
    have lm := d'.len
    have hex2 : ∀ c ∈ (Cell.lst (cs.map ceD) :: ex), isLls c = false := fun c hc => by
      rcases List.mem_cons.mp hc with rfl | hc
      · rfl
      · exact hex c hc
    obtain ⟨S2, rs, e3, d3, b3, w3⟩ := light_cell (y1 := .pd (.int (most : Int))) (bk := μ2.length) (e9 := none) (e10 := none) (c := j) (b'.app hex2) (by omega) (by omega) hs (fun z hz => hs1 z hz) hj (cs := cs) (by omega) (by rw [← lm]; simp) hne
    obtain ⟨μ3, rfl, d4⟩ := d3.app (by omega)
    have lm3 := d4.len
    have es : (μ3 ++ (Cell.lst (cs.map ceD) :: ex)).set μ2.length (.lst ((cs ++ [rs]).map ceD)) ++ [.lst (rs.map ruD)] = μ3 ++ (.lst ((cs ++ [rs]).map ceD) :: (ex ++ [.lst (rs.map ruD)])) := by
      rw [← lm, ← lm3]
      simp
    rw [es] at e3
    exact ⟨_, _, _, by simp [bindT], .inl e3, rfl, μ3, cs ++ [rs], ex ++ [.lst (rs.map ruD)], rfl, d'.trans d4, (b3.unapp (by omega)).mono (by omega), by simp [lc], fun y hy => by
      rcases List.mem_append.mp hy with h | h
      · exact wc y h
      · rw [List.mem_singleton.mp h]
        exact w3, fun y hy => by
      rcases List.mem_append.mp hy with h | h
      · exact hex y h
      · rw [List.mem_singleton.mp h]
        rfl⟩)
  rw [List.length_map, List.length_range] at b' lc
  have lm := d'.len
  have g3 : deref (μ' ++ (Cell.lst (cs.map ceD) :: ex)) (.ref μ2.length) = some (.list (cs.map ceD)) := dreff _ _ _ (by rw [← lm]; simp)
  have i2 : iLst (eVar 3) (LE l n (.pd (.int (most : Int))) ss μ2.length none none none none none none) (μ' ++ (Cell.lst (cs.map ceD) :: ex)) = .ok ((ss.map fun z => D.pd (.int z), []), μ' ++ (Cell.lst (cs.map ceD) :: ex)) := by
    simp [iLst, srcL]
  have c2 := comp_mapA (g := []) (T := .nm 10) (μ := μ' ++ (Cell.lst (cs.map ceD) :: ex)) (elt := eTup (aCons (eVar 10) (aCons (eC (.int 1)) aNil))) (env := wipeE (LE l n (.pd (.int (most : Int))) ss μ2.length none none none none none none) [10]) held_nil (fun z : Int => D.pd (.int z)) (fun z => D.pd (.tuple [.int z, .int 1])) ss (fun z _ => ⟨(LE l n (.pd (.int (most : Int))) ss μ2.length none none none none none none).set 10 (some (.pd (.int z))), by simp [bindT, wipeE], by simp [sz]⟩)
  have l3 := lcD_eq (vs := [10]) i2 (by rw [List.length_map]; exact sz (by omega)) c2
  have s3 : p_law_light_book_3 (LE l n (.pd (.int (most : Int))) ss μ2.length none none none none none none) (μ' ++ (Cell.lst (cs.map ceD) :: ex)) = .ok ((.rt (.pd (.tuple [gbD cs, .tuple (ss.map fun z => .tuple [.int z, .int 1])])), LE l n (.pd (.int (most : Int))) ss μ2.length none none none none none none), μ' ++ (Cell.lst (cs.map ceD) :: ex)) := by
    simp -implicitDefEqProofs [p_law_light_book_3, g3, derefs, l3, sz, gbD]
  have dd := (d1.trans d2).trans d'
  have bb : BagAt l (k + 2000) μ' := b'.mono (by omega)
  exact ⟨μ', cs, _, fnS_pd (fnL_run ((congrFun (congrFun parts_law_light_book _) _).trans ((seq_nx s0).trans ((seq_nx s1).trans ((seq_nx q1).trans s3)))) rfl) dd bb, dd, bb, ⟨by omega, by omega, fun c hc => by rw [lc]; exact wc c hc⟩, by omega⟩
end P55

set_option Elab.async false
set_option linter.all false
set_option maxRecDepth 100000
set_option maxHeartbeats 4000000
/-! Any books drawn. -/
namespace P55
open PySem PySem.Spec PyProof.Rows L2 Zd
def anyMenu : List PyData := [.tuple [.int 0, .int 1], .tuple [.int 0, .int 1], .tuple [.int 1, .int 2], .tuple [.int (-1), .int 2], .tuple [.int 1, .int 3], .tuple [.int 1, .int 1], .tuple [.int (-1), .int 1], .tuple [.int 2, .int 3], .tuple [.int (-3), .int 5], .tuple [.int 1, .int 4], .tuple [.int 0, .int 1]]
theorem any_fac : ∀ d ∈ anyMenu, ∃ q, d = fr q ∧ Bd 1200 6000 q := by
  intro d hd
  simp only [anyMenu, List.mem_cons, List.not_mem_nil, or_false] at hd
  rcases hd with rfl | rfl | rfl | rfl | rfl | rfl | rfl | rfl | rfl | rfl | rfl
  · exact ⟨_, fr_mk 0 1 (by decide) (by decide), by decide, by decide⟩
  · exact ⟨_, fr_mk 0 1 (by decide) (by decide), by decide, by decide⟩
  · exact ⟨_, fr_mk 1 2 (by decide) (by decide), by decide, by decide⟩
  · exact ⟨_, fr_mk (-1) 2 (by decide) (by decide), by decide, by decide⟩
  · exact ⟨_, fr_mk 1 3 (by decide) (by decide), by decide, by decide⟩
  · exact ⟨_, fr_mk 1 1 (by decide) (by decide), by decide, by decide⟩
  · exact ⟨_, fr_mk (-1) 1 (by decide) (by decide), by decide, by decide⟩
  · exact ⟨_, fr_mk 2 3 (by decide) (by decide), by decide, by decide⟩
  · exact ⟨_, fr_mk (-3) 5 (by decide) (by decide), by decide, by decide⟩
  · exact ⟨_, fr_mk 1 4 (by decide) (by decide), by decide, by decide⟩
  · exact ⟨_, fr_mk 0 1 (by decide) (by decide), by decide, by decide⟩
abbrev AE (l n : Nat) (y1 : D) (bk : Nat) (e5 e6 e7 e8 : Option D) : Zd.Env := [some (.ref l), some y1, some (.pd (.int (n : Int))), some (.ref bk), some (.pd (.list anyMenu)), e5, e6, e7, e8]
/-- an item of a menu -/
theorem menu_elt {l k i : Nat} {μ : Store} {env : Zd.Env} {P : PyData → Prop} {m : List PyData} (h0 : env[0]? = some (some (.ref l))) (h4 : env[i]? = some (some (.pd (.list m)))) (m1 : 0 < m.length) (m2 : m.length ≤ 1000) (hm : ∀ d ∈ m, P d) (b : BagAt l k μ) (hk : k ≤ 900000) :
    ∃ (μ' : Store) (x : PyData), eCallS F__law_some (aCons (eVar 0) (aCons (eVar i) aNil)) env μ = .ok (.pd x, μ') ∧ Dr l μ μ' ∧ BagAt l (k + 1) μ' ∧ P x := by
  obtain ⟨μ1, d, e1, d1, b1, hd⟩ := some_ok b (by omega) m1 m2
  refine ⟨μ1, d, ?_, d1, b1, hm d hd⟩
  rw [v_callS, v_acons, v_var 0 h0, Out.ok_bind, v_acons, v_var i h4]
  exact e1
theorem any_rule {l k n c bk : Nat} {μ : Store} {y1 : D} {e7 : Option D} (hb : BagAt l k μ) (hk : k ≤ 600000) (hn : n ≤ 5) {rs : List Ru} (hr : rs.length ≤ 10) :
    ∃ (μ' : Store) (r : Ru), p_law_any_book_2_b_1_bx (AE l n y1 bk (some (.pd (.int (c : Int)))) (some (.ref μ.length)) e7 none) (μ ++ [.lst (rs.map ruD)]) =
      .ok ((.nx, AE l n y1 bk (some (.pd (.int (c : Int)))) (some (.ref μ.length)) none none), μ' ++ [.lst ((rs ++ [r]).map ruD)]) ∧ Dr l μ μ' ∧ BagAt l (k + 10) μ' ∧ WR n r := by
  have lt := hb.lt
  obtain ⟨S1, q, e1, d1, b1, tq⟩ := told_ok (hb.app (ex := [.lst (rs.map ruD)]) (by simp [isLls])) (by omega)
  obtain ⟨S2, xs, e2, d2, b2, l2, p2⟩ := lc_draw (l := l) (a := 1) (v := 8) (n := n) (elt := eCallS F__law_some (aCons (eVar 0) (aCons (eVar 4) aNil))) (env := AE l n y1 bk (some (.pd (.int (c : Int)))) (some (.ref μ.length)) e7 none) (ea := eVar 2) (P := fun x => ∃ q, x = fr q ∧ Bd 1200 6000 q) (by decide : 8 < 9) (by simp) (by omega) (by omega) b1 (fun d k' μ hk' b => menu_elt (m := anyMenu) (i := 4) rfl rfl (by decide) (by decide) any_fac b hk')
  obtain ⟨fs, rfl, lf, bf⟩ := all_frs p2
  rw [l2] at lf
  obtain ⟨μ3, rfl, d4⟩ := (d1.trans d2).app lt
  have lm := d4.len
  have g : (μ3 ++ [Cell.lst (rs.map ruD)])[μ.length]? = some (.lst (rs.map ruD)) := by rw [← lm]; simp
  have g0 : (μ ++ [Cell.lst (rs.map ruD)])[μ.length]? = some (.lst (rs.map ruD)) := by simp
  have g3 : ∀ x, (μ3 ++ [Cell.lst (rs.map ruD)]).set μ.length x = μ3 ++ [x] := fun x => by rw [← lm]; simp
  have hz : rs.length < sizeLine := szl' (by omega)
  refine ⟨μ3, (q, fs), ?_, d4, (b2.unapp (by omega)).mono (by omega), tq, lf, bf⟩
  simp -implicitDefEqProofs [p_law_any_book_2_b_1_bx, p_law_any_book_2_b_1_b, e1, e2, sz, g, g0, g3, hz, wipeE, ruD]
theorem any_rules {l k n c bk : Nat} {μ : Store} {y1 : D} (hb : BagAt l k μ) (hk : k ≤ 500000) (hn : n ≤ 5) :
    ∃ (μ' : Store) (rs : List Ru), p_law_any_book_2_b_1 (AE l n y1 bk (some (.pd (.int (c : Int)))) (some (.ref μ.length)) none none) (μ ++ [.lst []]) =
      .ok ((.nx, AE l n y1 bk (some (.pd (.int (c : Int)))) (some (.ref μ.length)) none none), μ' ++ [.lst (rs.map ruD)]) ∧ Dr l μ μ' ∧ BagAt l (k + 200) μ' ∧ WC n rs := by
  have lt := hb.lt
  obtain ⟨S1, m, i1, d1, b1, hm⟩ := turns_it (es := [1, 2, 1, 3]) (ea := aCons (eC (.int 1)) (aCons (eC (.int 2)) (aCons (eC (.int 1)) (aCons (eC (.int 3)) aNil)))) (env := AE l n y1 bk (some (.pd (.int (c : Int)))) (some (.ref μ.length)) none none) (S := μ ++ [.lst []]) rfl (hb.app (ex := [.lst []]) (by simp [isLls])) (by omega) (by decide) (by decide) (by decide) (by simp [sz])
  obtain ⟨μ1, rfl, d2⟩ := d1.app lt
  have m3 : 1 ≤ m ∧ m ≤ 3 := by
    simp only [List.mem_cons, List.not_mem_nil, or_false] at hm
    omega
  have lm := d2.len
  obtain ⟨env', S, q1, rfl, μ', rs, rfl, d', b', lr, wr⟩ := for_rel (T := .nm 7) (b := p_law_any_book_2_b_1_bx) (fun j env S => env = AE l n y1 bk (some (.pd (.int (c : Int)))) (some (.ref μ.length)) none none ∧ ∃ (μ' : Store) (rs : List Ru), S = μ' ++ [.lst (rs.map ruD)] ∧ Dr l μ1 μ' ∧ BagAt l (k + 1 + 40 * j) μ' ∧ rs.length = j ∧ ∀ r ∈ rs, WR n r) i1
    ⟨rfl, μ1, [], rfl, .refl (b1.unapp (by omega)), b1.unapp (by omega), rfl, by simp⟩ (fun _ _ _ _ => held_nil) (fun j d env S hd hP => by
    obtain ⟨rfl, μ', rs, rfl, d', b', lr, wr⟩ := hP
    obtain ⟨hj, rfl⟩ := range_item hd
    have e : μ.length = μ'.length := by rw [d'.len, lm]
    obtain ⟨μ2, r, e1, d3, b3, w3⟩ := any_rule (y1 := y1) (bk := bk) (c := c) (e7 := some (.pd (.int (j : Int)))) b' (by omega) hn (rs := rs) (by omega)
    rw [← e] at e1
    exact ⟨_, _, _, by simp [bindT], .inl e1, rfl, μ2, rs ++ [r], rfl, d'.trans d3, b3.mono (by omega), by simp [lr], fun y hy => by
      rcases List.mem_append.mp hy with h | h
      · exact wr y h
      · rw [List.mem_singleton.mp h]
        exact w3⟩)
  rw [List.length_map, List.length_range] at b' lr
  exact ⟨μ', rs, q1, d2.trans d', b'.mono (by omega), by omega, by omega, wr⟩
/-- one cell -/
theorem any_cell {l k n c bk : Nat} {S : Store} {y1 : D} (hb : BagAt l k S) (hk : k ≤ 500000) (hn : n ≤ 5) {cs : List (List Ru)} (hcs : cs.length ≤ 10) (hbk : S[bk]? = some (.lst (cs.map ceD))) (hne : bk ≠ l) :
    ∃ (S' : Store) (rs : List Ru), p_law_any_book_2_b (AE l n y1 bk (some (.pd (.int (c : Int)))) none none none) S =
      .ok ((.nx, AE l n y1 bk none none none none), (S'.set bk (.lst ((cs ++ [rs]).map ceD))) ++ [.lst (rs.map ruD)]) ∧ Dr l S S' ∧ BagAt l (k + 200) S' ∧ WC n rs := by
  obtain ⟨S1, rs, e1, d1, b1, w1⟩ := any_rules (y1 := y1) (bk := bk) (c := c) hb hk hn
  have lm := d1.len
  have hbl : bk < S.length := (List.getElem?_eq_some_iff.mp hbk).1
  have g1 : S1[bk]? = some (.lst (cs.map ceD)) := by
    obtain ⟨x, rfl⟩ := d1
    rw [List.getElem?_set_ne (Ne.symm hne)]
    exact hbk
  have g2 : (S1 ++ [Cell.lst (rs.map ruD)])[bk]? = some (.lst (cs.map ceD)) := by rw [List.getElem?_append_left (by omega)]; exact g1
  have g3 : deref (S1 ++ [Cell.lst (rs.map ruD)]) (.ref S.length) = some (.list (rs.map ruD)) := dreff _ _ _ (by rw [← lm]; simp)
  have g4 : ∀ x, (S1 ++ [Cell.lst (rs.map ruD)]).set bk x = S1.set bk x ++ [.lst (rs.map ruD)] := fun x => List.set_append_left _ _ (by omega)
  have hz : cs.length < sizeLine := szl' (by omega)
  refine ⟨S1, rs, ?_, d1, b1, w1⟩
  have s0 : p_law_any_book_2_b_0 (AE l n y1 bk (some (.pd (.int (c : Int)))) none none none) S = .ok ((.nx, AE l n y1 bk (some (.pd (.int (c : Int)))) (some (.ref S.length)) none none), S ++ [.lst []]) := by
    simp [p_law_any_book_2_b_0, bindT, sz]
  have s2 : p_law_any_book_2_b_2 (AE l n y1 bk (some (.pd (.int (c : Int)))) (some (.ref S.length)) none none) (S1 ++ [.lst (rs.map ruD)]) = .ok ((.nx, AE l n y1 bk (some (.pd (.int (c : Int)))) (some (.ref S.length)) none none), (S1.set bk (.lst ((cs ++ [rs]).map ceD))) ++ [.lst (rs.map ruD)]) := by
    simp -implicitDefEqProofs [p_law_any_book_2_b_2, g2, g3, g4, derefs, hz, ceD]
  unfold p_law_any_book_2_b
  rw [v_forget, seq_nx s0, seq_nx e1, s2]
  rfl
theorem any_ok {l k : Nat} {μ : Store} {most : Nat} (hm : 1 ≤ most) (hm5 : most ≤ 5) (hb : BagAt l k μ) (hk : k ≤ 400000) :
    ∃ (μ' : Store) (B : List (List Ru)), F__law_any_book [.ref l, .pd (.int (most : Int))] μ = .ok (.pd (gbD B), μ') ∧ Dr l μ μ' ∧ BagAt l (k + 2000) μ' ∧ WB B ∧ B.length ≤ most := by
  have lt := hb.lt
  obtain ⟨μ1, v, e1, d1, b1, v0, v1⟩ := take_ok hb (by omega) (m := (most : Int)) (by omega) (by omega)
  obtain ⟨m, rfl⟩ := Int.eq_ofNat_of_zero_le v0
  obtain ⟨n, hmn⟩ : ∃ n : Nat, n = m + 1 := ⟨_, rfl⟩
  have hn1 : (1 : Int) + (m : Int) = (n : Int) := by omega
  have s0 : p_law_any_book_0 [some (.ref l), some (.pd (.int (most : Int))), none, none, none, none, none, none, none] μ = .ok ((.nx, [some (.ref l), some (.pd (.int (most : Int))), some (.pd (.int (n : Int))), some (.ref μ1.length), none, none, none, none, none]), μ1 ++ [.lst []]) := by
    simp -implicitDefEqProofs [p_law_any_book_0, e1, bindTs, bindT, hn1, sz]
  have s1 : p_law_any_book_1 [some (.ref l), some (.pd (.int (most : Int))), some (.pd (.int (n : Int))), some (.ref μ1.length), none, none, none, none, none] (μ1 ++ [.lst []]) = .ok ((.nx, AE l n (.pd (.int (most : Int))) μ1.length none none none none), μ1 ++ [.lst []]) := by
    simp [p_law_any_book_1, bindT, sz, anyMenu]
  have lm2 : μ1.length = μ.length := d1.len
  have hne : μ1.length ≠ l := by omega
  obtain ⟨env', S, q1, rfl, μ', cs, ex, rfl, d', b', lc, wc, hex⟩ := for_rel (T := .nm 5) (b := p_law_any_book_2_b) (ei := iRg1 (eVar 2)) (env := AE l n (.pd (.int (most : Int))) μ1.length none none none none) (μ := μ1 ++ [.lst []]) (fun j env S => env = AE l n (.pd (.int (most : Int))) μ1.length none none none none ∧ ∃ (μ' : Store) (cs : List (List Ru)) (ex : Store), S = μ' ++ (.lst (cs.map ceD) :: ex) ∧ Dr l μ1 μ' ∧ BagAt l (k + 10 + 200 * j) μ' ∧ cs.length = j ∧ (∀ c ∈ cs, WC n c) ∧ ∀ c ∈ ex, isLls c = false)
    (rg1_ok (n := n) rfl (by omega)) ⟨rfl, μ1, [], [], rfl, .refl b1, b1.mono (by omega), rfl, by simp, by simp⟩ (fun _ _ _ _ => held_nil) (fun j d env S hd hP => by
    obtain ⟨rfl, μ', cs, ex, rfl, d', b', lc, wc, hex⟩ := hP
    obtain ⟨hj, rfl⟩ := range_item hd
    have lm := d'.len
    have hex2 : ∀ c ∈ (Cell.lst (cs.map ceD) :: ex), isLls c = false := fun c hc => by
      rcases List.mem_cons.mp hc with rfl | hc
      · rfl
      · exact hex c hc
    obtain ⟨S2, rs, e3, d3, b3, w3⟩ := any_cell (y1 := .pd (.int (most : Int))) (bk := μ1.length) (c := j) (n := n) (b'.app hex2) (by omega) (by omega) (cs := cs) (by omega) (by rw [← lm]; simp) hne
    obtain ⟨μ3, rfl, d4⟩ := d3.app (by omega)
    have lm3 := d4.len
    have es : (μ3 ++ (Cell.lst (cs.map ceD) :: ex)).set μ1.length (.lst ((cs ++ [rs]).map ceD)) ++ [.lst (rs.map ruD)] = μ3 ++ (.lst ((cs ++ [rs]).map ceD) :: (ex ++ [.lst (rs.map ruD)])) := by
      rw [← lm, ← lm3]
      simp
    rw [es] at e3
    exact ⟨_, _, _, by simp [bindT], .inl e3, rfl, μ3, cs ++ [rs], ex ++ [.lst (rs.map ruD)], rfl, d'.trans d4, (b3.unapp (by omega)).mono (by omega), by simp [lc], fun y hy => by
      rcases List.mem_append.mp hy with h | h
      · exact wc y h
      · rw [List.mem_singleton.mp h]
        exact w3, fun y hy => by
      rcases List.mem_append.mp hy with h | h
      · exact hex y h
      · rw [List.mem_singleton.mp h]
        rfl⟩)
  rw [List.length_map, List.length_range] at b' lc
  have lm := d'.len
  have g3 : deref (μ' ++ (Cell.lst (cs.map ceD) :: ex)) (.ref μ1.length) = some (.list (cs.map ceD)) := dreff _ _ _ (by rw [← lm]; simp)
  have s3 : p_law_any_book_3 (AE l n (.pd (.int (most : Int))) μ1.length none none none none) (μ' ++ (Cell.lst (cs.map ceD) :: ex)) = .ok ((.rt (.pd (gbD cs)), AE l n (.pd (.int (most : Int))) μ1.length none none none none), μ' ++ (Cell.lst (cs.map ceD) :: ex)) := by
    simp -implicitDefEqProofs [p_law_any_book_3, g3, derefs, sz, gbD]
  have dd := d1.trans d'
  have bb : BagAt l (k + 2000) μ' := b'.mono (by omega)
  exact ⟨μ', cs, fnS_pd (fnL_run ((congrFun (congrFun parts_law_any_book _) _).trans ((seq_nx s0).trans ((seq_nx s1).trans ((seq_nx q1).trans s3)))) rfl) dd bb, dd, bb, ⟨by omega, by omega, fun c hc => by rw [lc]; exact wc c hc⟩, by omega⟩
end P55

set_option Elab.async false
set_option linter.all false
set_option maxRecDepth 100000
set_option maxHeartbeats 4000000
/-! Heavy books drawn. -/
namespace P55
open PySem PySem.Spec PyProof.Rows L2 Zd
theorem all_nats {P : Nat → Prop} : ∀ {xs : List PyData}, (∀ x ∈ xs, ∃ i : Nat, x = .int (i : Int) ∧ P i) → ∃ L : List Nat, xs = L.map (fun (i : Nat) => PyData.int (i : Int)) ∧ L.length = xs.length ∧ ∀ i ∈ L, P i
  | [], _ => ⟨[], rfl, rfl, by simp⟩
  | x :: r, h => by
    obtain ⟨i, rfl, p⟩ := h x (by simp)
    obtain ⟨L, rfl, l, q⟩ := all_nats (xs := r) fun y hy => h y (by simp [hy])
    exact ⟨i :: L, rfl, by simp, fun w hw => by
      rcases List.mem_cons.mp hw with rfl | hw
      · exact p
      · exact q w hw⟩
theorem cut_take (ds : List PyData) (t : Nat) : Zd.cutD ds none (some (t : Int)) = ds.take t := by
  unfold Zd.cutD
  rw [HT.sIx_nat, HT.sIx_none, List.drop_zero, Nat.sub_zero]
  by_cases h : t ≤ ds.length
  · rw [Nat.min_eq_left h]
  · rw [Nat.min_eq_right (by omega), List.take_of_length_le (Nat.le_refl _), List.take_of_length_le (by omega)]
abbrev natsD (L : List Nat) : List PyData := L.map fun (i : Nat) => PyData.int (i : Int)
theorem nats_ints (L : List Nat) : natsD L = (L.map fun (i : Nat) => (i : Int)).map PyData.int := by
  rw [List.map_map]
  rfl
theorem flat_nats (L : List Nat) : (natsD L).all flatD = true := by
  rw [List.all_eq_true]
  intro x hx
  obtain ⟨i, _, rfl⟩ := List.mem_map.mp hx
  rfl
theorem any_nats (c : Nat) : ∀ L : List Nat, (natsD L).any (fun d => eqF d (.int (c : Int))) = decide (c ∈ L)
  | [] => by simp
  | i :: L => by
    have ih := any_nats c L
    have e : eqF (.int (i : Int)) (.int (c : Int)) = decide (c = i) := by
      show ((i : Int) == (c : Int)) = _
      rw [Bool.eq_iff_iff]
      simp
      omega
    show (eqF (.int (i : Int)) (.int (c : Int)) || (natsD L).any _) = _
    rw [ih, e]
    simp [List.mem_cons, Bool.decide_or]
theorem idx_nats {c : Nat} : ∀ {L : List Nat}, c ∈ L → ∃ j, idxF (.int (c : Int)) (natsD L) = some j ∧ j < L.length
  | i :: L, h => by
    by_cases e : i = c
    · subst e
      exact ⟨0, by simp [idxF, eqF], by simp⟩
    · obtain ⟨j, h1, h2⟩ := idx_nats (L := L) (by
        rcases List.mem_cons.mp h with q | q
        · exact absurd q.symm e
        · exact q)
      have ne : eqF (.int (i : Int)) (.int (c : Int)) = false := by
        show ((i : Int) == (c : Int)) = false
        simp
        omega
      refine ⟨j + 1, ?_, by simp; exact h2⟩
      show (if eqF (.int (i : Int)) (.int (c : Int)) = true then some 0 else (idxF (.int (c : Int)) (natsD L)).map (· + 1)) = _
      rw [ne, h1]
      rfl
theorem in_nats (c : Nat) (L : List Nat) : fIn (.int (c : Int)) (.list (natsD L)) = some (.bool (decide (c ∈ L))) := by
  have : inD (.int (c : Int)) (natsD L) = decide (c ∈ L) := any_nats c L
  unfold fIn
  simp only [seqOf, flat_nats, flatD, and_self, if_true, this]
theorem notIn_nats (c : Nat) (L : List Nat) : fNotIn (.int (c : Int)) (.list (natsD L)) = some (.bool (!decide (c ∈ L))) := by
  have : inD (.int (c : Int)) (natsD L) = decide (c ∈ L) := any_nats c L
  unfold fNotIn
  simp only [seqOf, flat_nats, flatD, and_self, if_true, this]
def heavyParts : List PyData := [.tuple [.int 1, .int 2], .tuple [.int 2, .int 3], .tuple [.int 0, .int 1], .tuple [.int 9, .int 10]]
theorem heavy_part : ∀ d ∈ heavyParts, ∃ a b : Int, d = .tuple [.int a, .int b] ∧ Pa a b := by
  intro d hd
  simp only [heavyParts, List.mem_cons, List.not_mem_nil, or_false] at hd
  rcases hd with rfl | rfl | rfl | rfl <;> exact ⟨_, _, rfl, by decide, by decide, by decide, by decide⟩
def heavyPart2 : List PyData := [.tuple [.int 1, .int 2], .tuple [.int 0, .int 1]]
theorem heavy_part2 : ∀ d ∈ heavyPart2, ∃ a b : Int, d = .tuple [.int a, .int b] ∧ Pa a b := by
  intro d hd
  simp only [heavyPart2, List.mem_cons, List.not_mem_nil, or_false] at hd
  rcases hd with rfl | rfl <;> exact ⟨_, _, rfl, by decide, by decide, by decide, by decide⟩
def heavyPart3 : List PyData := [.tuple [.int 1, .int 1], .tuple [.int 1, .int 1], .tuple [.int 5, .int 4], .tuple [.int 2, .int 1]]
theorem heavy_part3 : ∀ d ∈ heavyPart3, ∃ a b : Int, d = .tuple [.int a, .int b] ∧ Pa a b := by
  intro d hd
  simp only [heavyPart3, List.mem_cons, List.not_mem_nil, or_false] at hd
  rcases hd with rfl | rfl | rfl | rfl <;> exact ⟨_, _, rfl, by decide, by decide, by decide, by decide⟩
structure Hy where
  n : Nat
  L : List Nat
  ss : List Int
  R : List Nat
structure HyOk (h : Hy) : Prop where
  n5 : h.n ≤ 5
  Ll : ∀ i ∈ h.L, i < h.n
  Rl : ∀ i ∈ h.R, i < h.n
  Lm : h.L.length ≤ h.n
  Rm : h.R.length ≤ h.n
  LR : ∀ i, i ∈ h.L → i ∈ h.R
  sl : h.ss.length = h.n
  s1 : ∀ z ∈ h.ss, 1 ≤ z ∧ z ≤ 4
abbrev HE (l : Nat) (h : Hy) (y1 : D) (bk ck : Nat) (e8 e9 e10 e11 e12 e13 e14 e15 e16 : Option D) : Zd.Env :=
  [some (.ref l), some y1, some (.pd (.int (h.n : Int))), some (.pd (.list (natsD h.L))), some (.pd (.list (h.ss.map .int))), some (.ref bk), some (.ref ck), some (.pd (.list (natsD h.R))), e8, e9, e10, e11, e12, e13, e14, e15, e16]
theorem heavy_rule {l k c bk ck : Nat} {h : Hy} (ok : HyOk h) {μ : Store} {y1 : D} {e10 e15 : Option D} (hb : BagAt l k μ) (hk : k ≤ 600000) (hc : c < h.n) {rs : List Ru} (hr : rs.length ≤ 10) :
    ∃ (μ' : Store) (r : Ru), p_law_heavy_book_4_b_1_b (HE l h y1 bk ck (some (.pd (.int (c : Int)))) (some (.ref μ.length)) e10 none none none none e15 none) (μ ++ [.lst (rs.map ruD)]) =
      .ok ((.nx, HE l h y1 bk ck (some (.pd (.int (c : Int)))) (some (.ref μ.length)) none none none none none e15 none), μ' ++ [.lst ((rs ++ [r]).map ruD)]) ∧ Dr l μ μ' ∧ BagAt l (k + 40) μ' ∧ WR h.n r := by
  have lt := hb.lt
  have n5 := ok.n5
  obtain ⟨S1, d, e1, d1, b1, hd⟩ := some_ok (hb.app (ex := [.lst (rs.map ruD)]) (by simp [isLls])) (by omega) (ds := heavyParts) (by decide) (by decide)
  obtain ⟨a, b, rfl, hp⟩ := heavy_part d hd
  obtain ⟨S2, L, e2, d2, b2, hL⟩ := cells_ok (n := h.n) b1 (by omega) (by omega)
  obtain ⟨hL1, hL2⟩ := sub_lt hL
  obtain ⟨S3, r, e3, d3, b3, hr3⟩ := shared_ok b2 (by omega) n5 ok.sl ok.s1 hc hp hL1 (by omega)
  obtain ⟨μ3, rfl, d4⟩ := ((d1.trans d2).trans d3).app lt
  have lm := d4.len
  have g : (μ3 ++ [Cell.lst (rs.map ruD)])[μ.length]? = some (.lst (rs.map ruD)) := by rw [← lm]; simp
  have g0 : S1[μ.length]? = some (.lst (rs.map ruD)) := by
    obtain ⟨μ1, rfl, d5⟩ := d1.app lt
    rw [← d5.len]; simp
  have g3 : ∀ x, (μ3 ++ [Cell.lst (rs.map ruD)]).set μ.length x = μ3 ++ [x] := fun x => by rw [← lm]; simp
  have hz : rs.length < sizeLine := szl' (by omega)
  refine ⟨μ3, r, ?_, d4, (b3.unapp (by omega)).mono (by omega), hr3⟩
  simp only [heavyParts] at e1
  simp -implicitDefEqProofs [p_law_heavy_book_4_b_1_b, p_law_heavy_book_4_b_1_b_0, p_law_heavy_book_4_b_1_b_1, e1, e2, e3, sz, bindT, g, g0, g3, hz, wipeE]
theorem heavy_rules {l k c bk ck : Nat} {h : Hy} (ok : HyOk h) {μ : Store} {y1 : D} {e15 : Option D} (hb : BagAt l k μ) (hk : k ≤ 500000) (hc : c < h.n) :
    ∃ (μ' : Store) (rs : List Ru), p_law_heavy_book_4_b_1 (HE l h y1 bk ck (some (.pd (.int (c : Int)))) (some (.ref μ.length)) none none none none none e15 none) (μ ++ [.lst []]) =
      .ok ((.nx, HE l h y1 bk ck (some (.pd (.int (c : Int)))) (some (.ref μ.length)) none none none none none e15 none), μ' ++ [.lst (rs.map ruD)]) ∧ Dr l μ μ' ∧ BagAt l (k + 200) μ' ∧ rs.length ≤ 2 ∧ ∀ r ∈ rs, WR h.n r := by
  have lt := hb.lt
  obtain ⟨S1, m, i1, d1, b1, hm⟩ := turns_it (es := [0, 1, 0, 2]) (ea := aCons (eC (.int 0)) (aCons (eC (.int 1)) (aCons (eC (.int 0)) (aCons (eC (.int 2)) aNil)))) (env := HE l h y1 bk ck (some (.pd (.int (c : Int)))) (some (.ref μ.length)) none none none none none e15 none) (S := μ ++ [.lst []]) rfl (hb.app (ex := [.lst []]) (by simp [isLls])) (by omega) (by decide) (by decide) (by decide) (by simp [sz])
  obtain ⟨μ1, rfl, d2⟩ := d1.app lt
  have m3 : m ≤ 2 := by
    simp only [List.mem_cons, List.not_mem_nil, or_false] at hm
    omega
  have lm := d2.len
  obtain ⟨env', S, q1, rfl, μ', rs, rfl, d', b', lr, wr⟩ := for_rel (T := .nm 10) (b := p_law_heavy_book_4_b_1_b) (fun j env S => env = HE l h y1 bk ck (some (.pd (.int (c : Int)))) (some (.ref μ.length)) none none none none none e15 none ∧ ∃ (μ' : Store) (rs : List Ru), S = μ' ++ [.lst (rs.map ruD)] ∧ Dr l μ1 μ' ∧ BagAt l (k + 1 + 40 * j) μ' ∧ rs.length = j ∧ ∀ r ∈ rs, WR h.n r) i1
    ⟨rfl, μ1, [], rfl, .refl (b1.unapp (by omega)), b1.unapp (by omega), rfl, by simp⟩ (fun _ _ _ _ => held_nil) (fun j d env S hd hP => by
    obtain ⟨rfl, μ', rs, rfl, d', b', lr, wr⟩ := hP
    obtain ⟨hj, rfl⟩ := range_item hd
    have e : μ.length = μ'.length := by rw [d'.len, lm]
    obtain ⟨μ2, r, e1, d3, b3, w3⟩ := heavy_rule ok (y1 := y1) (bk := bk) (ck := ck) (e10 := some (.pd (.int (j : Int)))) (e15 := e15) b' (by omega) hc (rs := rs) (by omega)
    rw [← e] at e1
    exact ⟨_, _, _, by simp [bindT], .inl e1, rfl, μ2, rs ++ [r], rfl, d'.trans d3, b3.mono (by omega), by simp [lr], fun y hy => by
      rcases List.mem_append.mp hy with h | h
      · exact wr y h
      · rw [List.mem_singleton.mp h]
        exact w3⟩)
  rw [List.length_map, List.length_range] at b' lr
  exact ⟨μ', rs, q1, d2.trans d', b'.mono (by omega), by omega, wr⟩
end P55

set_option Elab.async false
set_option linter.all false
set_option maxRecDepth 100000
set_option maxHeartbeats 4000000
/-! Heavy books drawn: one cell. -/
namespace P55
open PySem PySem.Spec PyProof.Rows L2 Zd
/-- a comprehension over some naturals that keeps those that a drawn test leaves -/
theorem lc_drawF {l a v k : Nat} {tst : EvT} {env : Zd.Env} {μ : Store} {ei : EvI} {L : List Nat} (hv : v < env.length) (hi : ei env μ = .ok ((L.map fun (i : Nat) => D.pd (.int (i : Int)), []), μ)) (hn : L.length ≤ 100) (hk : k + a * L.length ≤ 900000) (hb : BagAt l k μ)
    (hl : ∀ (i k : Nat) (μ : Store), k ≤ 900000 → BagAt l k μ → ∃ (μ' : Store) (t : Bool), tst ((wipeE env [v]).set v (some (.pd (.int (i : Int))))) μ = .ok (t, μ') ∧ Dr l μ μ' ∧ BagAt l (k + a) μ') :
    ∃ (μ' : Store) (L' : List Nat), eLcD [v] (.nm v) ei tst (eVar v) env μ = .ok (L'.map (fun (i : Nat) => D.pd (.int (i : Int))), μ') ∧ Dr l μ μ' ∧ BagAt l (k + a * L.length) μ' ∧ L'.Sublist L := by
  have hw : v < (wipeE env [v]).length := by simpa [wipeE] using hv
  obtain ⟨μ', xs, e1, d1, b1, s1⟩ := comp_drawF (l := l) (a := a) (tst := tst) hw (G := fun d => ∃ i : Nat, d = .pd (.int (i : Int))) (fun d k μ hg hk b => by
    obtain ⟨i, rfl⟩ := hg
    exact hl i k μ hk b) (L.map fun (i : Nat) => D.pd (.int (i : Int))) k μ (fun d hd => by
      obtain ⟨i, _, rfl⟩ := List.mem_map.mp hd
      exact ⟨i, rfl⟩) (by rw [List.length_map]; exact hk) hb
  obtain ⟨L', rfl, h2⟩ := sub_map s1
  rw [List.length_map] at b1
  exact ⟨μ', L', lcD_eq hi (by rw [List.length_map]; exact sz (by omega)) e1, d1, b1, h2⟩
theorem rep_dr {l i : Nat} {S S' : Store} {c : Cell} (d : Dr l S S') (h : S[i]? = some c) (hne : i ≠ l) : S'[i]? = some c := by
  obtain ⟨x, rfl⟩ := d
  rw [List.getElem?_set_ne (Ne.symm hne)]
  exact h
section
variable {l k c bk ck rp : Nat} {h : Hy} {y1 : D} {S : Store} {e15 : Option D}
/-- the part and the reads -/
theorem heavy_reads (ok : HyOk h) (hb : BagAt l k S) (hk : k ≤ 500000) (hc : c < h.n) {e9 : Option D} :
    ∃ (S' : Store) (a b : Int) (L : List Nat) (e13 : Option D), sCons p_law_heavy_book_4_b_2 (sCons p_law_heavy_book_4_b_3 p_law_heavy_book_4_b_4) (HE l h y1 bk ck (some (.pd (.int (c : Int)))) e9 none none none none none e15 none) S =
      .ok ((.nx, HE l h y1 bk ck (some (.pd (.int (c : Int)))) e9 none (some (.pd (.tuple [.int a, .int b]))) (some (.pd (.list (natsD L)))) e13 none e15 none), S') ∧ Dr l S S' ∧ BagAt l (k + 20) S' ∧ Pa a b ∧ (∀ i ∈ L, i < h.n) ∧ L.length ≤ 9 := by
  have n5 := ok.n5
  obtain ⟨S1, d, e1, d1, b1, hd⟩ := some_ok hb (by omega) (ds := heavyPart2) (by decide) (by decide)
  obtain ⟨a, b, rfl, hp⟩ := heavy_part2 d hd
  have s1 : p_law_heavy_book_4_b_2 (HE l h y1 bk ck (some (.pd (.int (c : Int)))) e9 none none none none none e15 none) S = .ok ((.nx, HE l h y1 bk ck (some (.pd (.int (c : Int)))) e9 none (some (.pd (.tuple [.int a, .int b]))) none none none e15 none), S1) := by
    simp only [heavyPart2] at e1
    simp -implicitDefEqProofs [p_law_heavy_book_4_b_2, e1, sz, bindT]
  obtain ⟨S2, L, e2, d2, b2, sL⟩ := lc_drawF (l := l) (a := 1) (v := 16) (L := List.range h.n) (tst := eAndT (eTst (eOp2 fNotIn (eVar 16) (eVar 3))) (eTst (eOp2 fEq (eCallS F__law_take (aCons (eVar 0) (aCons (eC (.int 2)) aNil))) (eC (.int 0))))) (env := HE l h y1 bk ck (some (.pd (.int (c : Int)))) e9 none (some (.pd (.tuple [.int a, .int b]))) none none none e15 none) (ei := iRg1 (eVar 2)) (by decide : 16 < 17) (rg1_ok rfl (by omega)) (by simp; omega) (by simp; omega) b1 (fun i k' μ hk' b' => by
    obtain ⟨μ1, v, e3, d3, b3, v0, v1⟩ := take_ok b' (by omega) (m := 2) (by decide) (by decide)
    by_cases hm : i ∈ h.L
    · exact ⟨μ, false, by simp -implicitDefEqProofs [wipeE, notIn_nats, hm], .refl b', b'.mono (by omega)⟩
    · exact ⟨μ1, decide (v = 0), by simp -implicitDefEqProofs [wipeE, notIn_nats, hm, e3], d3, b3⟩)
  obtain ⟨hL1, hL2⟩ := sub_lt sL
  rw [List.length_range] at b2
  have s2 : p_law_heavy_book_4_b_3 (HE l h y1 bk ck (some (.pd (.int (c : Int)))) e9 none (some (.pd (.tuple [.int a, .int b]))) none none none e15 none) S1 = .ok ((.nx, HE l h y1 bk ck (some (.pd (.int (c : Int)))) e9 none (some (.pd (.tuple [.int a, .int b]))) (some (.pd (.list (natsD L)))) none none e15 none), S2) := by
    simp -implicitDefEqProofs [p_law_heavy_book_4_b_3, e2, bindT]
  by_cases hm : c ∈ h.L
  · obtain ⟨j, ij, jl⟩ := idx_nats (ok.LR c hm)
    have R1 := ok.Rm
    have hlen : j + 1 < (h.R ++ h.R.take 1).length := by
      rw [List.length_append, List.length_take]
      omega
    obtain ⟨i, hi⟩ : ∃ i, (h.R ++ h.R.take 1)[j + 1]? = some i := ⟨_, List.getElem?_eq_getElem hlen⟩
    have iR : i ∈ h.R := by
      rcases List.mem_append.mp (List.mem_of_getElem? hi) with q | q
      · exact q
      · exact List.mem_of_mem_take q
    have hat : atI (natsD h.R ++ (natsD h.R).take 1) ((j : Int) + 1) = some (.int (i : Int)) := by
      have e : natsD h.R ++ (natsD h.R).take 1 = natsD (h.R ++ h.R.take 1) := by
        rw [← List.map_take, ← List.map_append]
      have e2 : ((j : Int) + 1) = ((j + 1 : Nat) : Int) := by omega
      rw [e, e2, at_nat, List.getElem?_map, hi]
      rfl
    obtain ⟨S3, d, e3, d3, b3, hd⟩ := some_ok b2 (by omega) (ds := heavyPart3) (by decide) (by decide)
    obtain ⟨a3, b3', rfl, hp3⟩ := heavy_part3 d hd
    obtain ⟨S4, L', e4, d4, b4, sL'⟩ := lc_drawF (l := l) (a := 1) (v := 16) (L := h.L) (tst := eAndT (eTst (eOp2 fNe (eVar 16) (eVar 13))) (eTst (eOp2 fEq (eCallS F__law_take (aCons (eVar 0) (aCons (eC (.int 3)) aNil))) (eC (.int 0))))) (env := HE l h y1 bk ck (some (.pd (.int (c : Int)))) e9 none (some (.pd (.tuple [.int a3, .int b3']))) (some (.pd (.list (natsD L)))) (some (.pd (.int (i : Int)))) none e15 none) (ei := iLst (eVar 3)) (by decide : 16 < 17) (by simp [iLst, srcL]) (by have := ok.Lm; omega) (by have := ok.Lm; omega) b3 (fun i' k' μ hk' b' => by
      obtain ⟨μ1, v, e3, d3, b3, v0, v1⟩ := take_ok b' (by omega) (m := 3) (by decide) (by decide)
      by_cases hm : (i' : Int) = (i : Int)
      · exact ⟨μ, false, by simp -implicitDefEqProofs [wipeE, hm], .refl b', b'.mono (by omega)⟩
      · exact ⟨μ1, decide (v = 0), by simp -implicitDefEqProofs [wipeE, hm, e3], d3, b3⟩)
    have l4 := sL'.length_le
    have Lm := ok.Lm
    refine ⟨S4, a3, b3', i :: L', some (.pd (.int (i : Int))), ?_, ((d1.trans d2).trans d3).trans d4, b4.mono (by omega), hp3, fun x hx => ?_, by simp; omega⟩
    · refine (seq_nx s1).trans ((seq_nx s2).trans ?_)
      have t0 : eTst (eOp2 fIn (eVar 8) (eVar 3)) (HE l h y1 bk ck (some (.pd (.int (c : Int)))) e9 none (some (.pd (.tuple [.int a, .int b]))) (some (.pd (.list (natsD L)))) none none e15 none) S2 = .ok (true, S2) := by
        simp -implicitDefEqProofs [in_nats, hm]
      have u0 : p_law_heavy_book_4_b_4t_0 (HE l h y1 bk ck (some (.pd (.int (c : Int)))) e9 none (some (.pd (.tuple [.int a, .int b]))) (some (.pd (.list (natsD L)))) none none e15 none) S2 = .ok ((.nx, HE l h y1 bk ck (some (.pd (.int (c : Int)))) e9 none (some (.pd (.tuple [.int a, .int b]))) (some (.pd (.list (natsD L)))) (some (.pd (.int (i : Int)))) none e15 none), S2) := by
        have hz : (natsD h.R).length + ((natsD h.R).take 1).length ≤ sizeLine := by
          rw [List.length_take, List.length_map]
          exact sz (by omega)
        have fl : ∀ x, x ∈ natsD h.R → flatD x = true := by simpa [List.all_eq_true] using flat_nats h.R
        have ct : Zd.cutD (natsD h.R) none (some 1) = (natsD h.R).take 1 := cut_take (natsD h.R) 1
        have hfl : flatD (.int (c : Int)) = true := rfl
        have g1 : gAdd (.list (natsD h.R)) (.list ((natsD h.R).take 1)) = some (natsD h.R ++ (natsD h.R).take 1) := if_pos hz
        unfold p_law_heavy_book_4_b_4t_0
        have x1 : eFrz (eSlL (eVar 7) oNone (oSome (eC (.int 1)))) (HE l h y1 bk ck (some (.pd (.int (c : Int)))) e9 none (some (.pd (.tuple [.int a, .int b]))) (some (.pd (.list (natsD L)))) none none e15 none) S2 = .ok (.pd (.list ((natsD h.R).take 1)), S2) := by
          rw [v_frz, v_slL, v_var 7 (d := .pd (.list (natsD h.R))) rfl]
          show Out.ok (D.pd (PyData.list (Zd.cutD (natsD h.R) none (some 1))), S2) = _
          rw [ct]
        have x2 : eFrz (eNew2 gAdd (eVar 7) (eFrz (eSlL (eVar 7) oNone (oSome (eC (.int 1)))))) (HE l h y1 bk ck (some (.pd (.int (c : Int)))) e9 none (some (.pd (.tuple [.int a, .int b]))) (some (.pd (.list (natsD L)))) none none e15 none) S2 = .ok (.pd (.list (natsD h.R ++ (natsD h.R).take 1)), S2) := by
          rw [v_frz, new2_ok (v_var 7 rfl) x1 g1]
          rfl
        have x4 : eIdx (eVar 7) (eVar 8) (HE l h y1 bk ck (some (.pd (.int (c : Int)))) e9 none (some (.pd (.tuple [.int a, .int b]))) (some (.pd (.list (natsD L)))) none none e15 none) S2 = .ok (.pd (.int (j : Int)), S2) := by
          rw [v_idx, v_var 7 (d := .pd (.list (natsD h.R))) rfl]
          show (if flatD (PyData.int (c : Int)) = true ∧ (natsD h.R).all flatD = true then _ else _) = _
          rw [if_pos ⟨hfl, flat_nats h.R⟩, ij]
        have x3 : eAdd (eIdx (eVar 7) (eVar 8)) (eC (.int 1)) (HE l h y1 bk ck (some (.pd (.int (c : Int)))) e9 none (some (.pd (.tuple [.int a, .int b]))) (some (.pd (.list (natsD L)))) none none e15 none) S2 = .ok (.pd (.int ((j : Int) + 1)), S2) := by
          simp -implicitDefEqProofs only [eAdd, v_op2, x4, Out.ok_bind, v_C, deref_pd, v_addI]
        rw [v_set, v_ix, x2, Out.ok_bind]
        dsimp only
        rw [x3]
        simp -implicitDefEqProofs only [Out.ok_bind, v_asI, v_ixL, hat, bindT]
        rfl
      have u1 : p_law_heavy_book_4_b_4t_1 (HE l h y1 bk ck (some (.pd (.int (c : Int)))) e9 none (some (.pd (.tuple [.int a, .int b]))) (some (.pd (.list (natsD L)))) (some (.pd (.int (i : Int)))) none e15 none) S2 = .ok ((.nx, HE l h y1 bk ck (some (.pd (.int (c : Int)))) e9 none (some (.pd (.tuple [.int a3, .int b3']))) (some (.pd (.list (natsD L)))) (some (.pd (.int (i : Int)))) none e15 none), S3) := by
        simp only [heavyPart3] at e3
        simp -implicitDefEqProofs [p_law_heavy_book_4_b_4t_1, e3, sz, bindT]
      have u2 : p_law_heavy_book_4_b_4t_2 (HE l h y1 bk ck (some (.pd (.int (c : Int)))) e9 none (some (.pd (.tuple [.int a3, .int b3']))) (some (.pd (.list (natsD L)))) (some (.pd (.int (i : Int)))) none e15 none) S3 = .ok ((.nx, HE l h y1 bk ck (some (.pd (.int (c : Int)))) e9 none (some (.pd (.tuple [.int a3, .int b3']))) (some (.pd (.list (natsD (i :: L'))))) (some (.pd (.int (i : Int)))) none e15 none), S4) := by
        have hz : 1 + L'.length ≤ sizeLine := sz (by omega)
        simp -implicitDefEqProofs [p_law_heavy_book_4_b_4t_2, e4, sz, hz, bindT]
      unfold p_law_heavy_book_4_b_4
      rw [v_sif, t0]
      exact (seq_nx u0).trans ((seq_nx u1).trans u2)
    · rcases List.mem_cons.mp hx with rfl | hx
      · exact ok.Rl _ iR
      · exact ok.Ll x (sL'.subset hx)
  · refine ⟨S2, a, b, L, none, ?_, d1.trans d2, b2.mono (by omega), hp, hL1, by omega⟩
    refine (seq_nx s1).trans ((seq_nx s2).trans ?_)
    have t0 : eTst (eOp2 fIn (eVar 8) (eVar 3)) (HE l h y1 bk ck (some (.pd (.int (c : Int)))) e9 none (some (.pd (.tuple [.int a, .int b]))) (some (.pd (.list (natsD L)))) none none e15 none) S2 = .ok (false, S2) := by
      simp -implicitDefEqProofs [in_nats, hm]
    unfold p_law_heavy_book_4_b_4
    rw [v_sif, t0]
    rfl
end
end P55

set_option Elab.async false
set_option linter.all false
set_option maxRecDepth 100000
set_option maxHeartbeats 4000000
/-! Heavy books drawn, whole. -/
namespace P55
open PySem PySem.Spec PyProof.Rows L2 Zd
theorem seq_assoc (a b c : EvS) : sCons (sCons a b) c = sCons a (sCons b c) := by
  funext env μ
  rw [v_cons, v_cons, v_cons]
  cases a env μ with
  | ok p =>
    obtain ⟨⟨f, env1⟩, μ1⟩ := p
    cases f <;> first | rfl | (simp only [Out.ok_bind, v_cons])
  | exc c fs μ' => rfl
  | stuck => rfl
/-- one cell: S holds the bag, the book at bk, the choice at ck -/
theorem heavy_cell {l k c bk ck : Nat} {h : Hy} (ok : HyOk h) {y1 : D} {S : Store} {e15 : Option D} (hb : BagAt l k S) (hk : k ≤ 400000) (hc : c < h.n) {cs : List (List Ru)} {zs : List PyData} (hcs : cs.length ≤ 10) (hzs : zs.length ≤ 10) (hbk : S[bk]? = some (.lst (cs.map ceD))) (hck : S[ck]? = some (.lst zs)) (n1 : bk ≠ l) (n2 : ck ≠ l) (n3 : bk ≠ ck) {e8 : Option D} :
    ∃ (S' : Store) (rs : List Ru) (z : PyData), p_law_heavy_book_4_b (HE l h y1 bk ck (some (.pd (.int (c : Int)))) none none none none none none e15 none) S =
      .ok ((.nx, HE l h y1 bk ck (some (.pd (.int (c : Int)))) none none none none none none e15 none), ((S'.set ck (.lst (zs ++ [z]))).set bk (.lst ((cs ++ [rs]).map ceD))) ++ [.lst (rs.map ruD)]) ∧ Dr l S S' ∧ BagAt l (k + 300) S' ∧ WC h.n rs := by
  have n5 := ok.n5
  have lt := hb.lt
  obtain ⟨S1, rs, e1, d1, b1, lr, wr⟩ := heavy_rules ok (y1 := y1) (bk := bk) (ck := ck) (e15 := e15) hb (by omega) hc
  have lm1 := d1.len
  obtain ⟨S2x, a, b, L, e13, e2, d2x, b2x, hp, hL, lL⟩ := heavy_reads ok (y1 := y1) (bk := bk) (ck := ck) (e15 := e15) (e9 := some (.ref S.length)) (b1.app (ex := [.lst (rs.map ruD)]) (by simp [isLls])) (by omega) hc
  obtain ⟨S2, rfl, d2⟩ := d2x.app (by omega)
  have lm2 := d2.len
  obtain ⟨S3x, v, e3, d3x, b3x, v0, v1⟩ := take_ok b2x (by omega) (m := (rs.length : Int) + 1) (by omega) (by omega)
  obtain ⟨S3, rfl, d3⟩ := d3x.app (by omega)
  have lm3 := d3.len
  obtain ⟨i, rfl⟩ := Int.eq_ofNat_of_zero_le v0
  obtain ⟨S4x, r, e4, d4x, b4x, wr4⟩ := shared_ok b3x (by omega) n5 ok.sl ok.s1 hc hp hL lL
  obtain ⟨S4, rfl, d4⟩ := d4x.app (by omega)
  have lm4 := d4.len
  have D4 := ((d1.trans d2).trans d3).trans d4
  have bb : BagAt l (k + 300) S4 := (b4x.unapp (by omega)).mono (by omega)
  have gb : S4[bk]? = some (.lst (cs.map ceD)) := rep_dr D4 hbk n1
  have gc : S4[ck]? = some (.lst zs) := rep_dr D4 hck n2
  have hbl : bk < S.length := (List.getElem?_eq_some_iff.mp hbk).1
  have hcl : ck < S.length := (List.getElem?_eq_some_iff.mp hck).1
  have s0 : p_law_heavy_book_4_b_0 (HE l h y1 bk ck (some (.pd (.int (c : Int)))) none none none none none none e15 none) S = .ok ((.nx, HE l h y1 bk ck (some (.pd (.int (c : Int)))) (some (.ref S.length)) none none none none none e15 none), S ++ [.lst []]) := by
    simp [p_law_heavy_book_4_b_0, bindT, sz]
  have s5 : p_law_heavy_book_4_b_5 (HE l h y1 bk ck (some (.pd (.int (c : Int)))) (some (.ref S.length)) none (some (.pd (.tuple [.int a, .int b]))) (some (.pd (.list (natsD L)))) e13 none e15 none) (S2 ++ [.lst (rs.map ruD)]) = .ok ((.nx, HE l h y1 bk ck (some (.pd (.int (c : Int)))) (some (.ref S.length)) none (some (.pd (.tuple [.int a, .int b]))) (some (.pd (.list (natsD L)))) e13 (some (.pd (.int (i : Int)))) e15 none), S3 ++ [.lst (rs.map ruD)]) := by
    have g : deref (S2 ++ [Cell.lst (rs.map ruD)]) (.ref S.length) = some (.list (rs.map ruD)) := dreff _ _ _ (by rw [← lm1, ← lm2]; simp)
    simp -implicitDefEqProofs [p_law_heavy_book_4_b_5, derefs, g, e3, bindT]
  have hi2 : (i : Int) ≤ (rs.length : Int) := by omega
  have hins : mInsert (rs.map ruD) [.int (i : Int), ruD r] = some (.none, (rs.take i ++ r :: rs.drop i).map ruD) := by
    show (if _ then some _ else none) = _
    rw [if_pos ⟨szl' (by rw [List.length_map]; omega), by omega, by rw [List.length_map]; exact hi2⟩, Int.toNat_natCast, ← List.map_take, ← List.map_drop, List.map_append, List.map_cons]
  obtain ⟨qs, hqs⟩ : ∃ qs, qs = rs.take i ++ r :: rs.drop i := ⟨_, rfl⟩
  rw [← hqs] at hins
  have lq : qs.length = rs.length + 1 := by
    rw [hqs, List.length_append, List.length_cons, List.length_take, List.length_drop]
    omega
  have wq : ∀ y ∈ qs, WR h.n y := fun y hy => by
    rw [hqs] at hy
    rcases List.mem_append.mp hy with q | q
    · exact wr y (List.mem_of_mem_take q)
    · rcases List.mem_cons.mp q with rfl | q
      · exact wr4
      · exact wr y (List.mem_of_mem_drop q)
  have s6 : p_law_heavy_book_4_b_6 (HE l h y1 bk ck (some (.pd (.int (c : Int)))) (some (.ref S.length)) none (some (.pd (.tuple [.int a, .int b]))) (some (.pd (.list (natsD L)))) e13 (some (.pd (.int (i : Int)))) e15 none) (S3 ++ [.lst (rs.map ruD)]) = .ok ((.nx, HE l h y1 bk ck (some (.pd (.int (c : Int)))) (some (.ref S.length)) none (some (.pd (.tuple [.int a, .int b]))) (some (.pd (.list (natsD L)))) e13 (some (.pd (.int (i : Int)))) e15 none), S4 ++ [.lst (qs.map ruD)]) := by
    have g0 : (S3 ++ [Cell.lst (rs.map ruD)])[S.length]? = some (.lst (rs.map ruD)) := by rw [← lm1, ← lm2, ← lm3]; simp
    have g1 : (S4 ++ [Cell.lst (rs.map ruD)])[S.length]? = some (.lst (rs.map ruD)) := by rw [← lm1, ← lm2, ← lm3, ← lm4]; simp
    have g3 : ∀ x, (S4 ++ [Cell.lst (rs.map ruD)]).set S.length x = S4 ++ [x] := fun x => by rw [← lm1, ← lm2, ← lm3, ← lm4]; simp
    simp -implicitDefEqProofs [p_law_heavy_book_4_b_6, g0, e4, g1, g3, hins]
  have s7 : p_law_heavy_book_4_b_7 (HE l h y1 bk ck (some (.pd (.int (c : Int)))) (some (.ref S.length)) none (some (.pd (.tuple [.int a, .int b]))) (some (.pd (.list (natsD L)))) e13 (some (.pd (.int (i : Int)))) e15 none) (S4 ++ [.lst (qs.map ruD)]) = .ok ((.nx, HE l h y1 bk ck (some (.pd (.int (c : Int)))) (some (.ref S.length)) none (some (.pd (.tuple [.int a, .int b]))) (some (.pd (.list (natsD L)))) e13 (some (.pd (.int (i : Int)))) e15 none), S4.set ck (.lst (zs ++ [.int (i : Int)])) ++ [.lst (qs.map ruD)]) := by
    have g0 : (S4 ++ [Cell.lst (qs.map ruD)])[ck]? = some (.lst zs) := by rw [List.getElem?_append_left (by omega)]; exact gc
    have g3 : ∀ x, (S4 ++ [Cell.lst (qs.map ruD)]).set ck x = S4.set ck x ++ [.lst (qs.map ruD)] := fun x => List.set_append_left _ _ (by omega)
    have hz : zs.length < sizeLine := szl' (by omega)
    simp -implicitDefEqProofs [p_law_heavy_book_4_b_7, g0, g3, hz]
  have s8 : p_law_heavy_book_4_b_8 (HE l h y1 bk ck (some (.pd (.int (c : Int)))) (some (.ref S.length)) none (some (.pd (.tuple [.int a, .int b]))) (some (.pd (.list (natsD L)))) e13 (some (.pd (.int (i : Int)))) e15 none) (S4.set ck (.lst (zs ++ [.int (i : Int)])) ++ [.lst (qs.map ruD)]) = .ok ((.nx, HE l h y1 bk ck (some (.pd (.int (c : Int)))) (some (.ref S.length)) none (some (.pd (.tuple [.int a, .int b]))) (some (.pd (.list (natsD L)))) e13 (some (.pd (.int (i : Int)))) e15 none), (S4.set ck (.lst (zs ++ [.int (i : Int)]))).set bk (.lst ((cs ++ [qs]).map ceD)) ++ [.lst (qs.map ruD)]) := by
    have gb2 : (S4.set ck (.lst (zs ++ [.int (i : Int)])))[bk]? = some (.lst (cs.map ceD)) := by rw [List.getElem?_set_ne (Ne.symm n3)]; exact gb
    have g0 : (S4.set ck (.lst (zs ++ [.int (i : Int)])) ++ [Cell.lst (qs.map ruD)])[bk]? = some (.lst (cs.map ceD)) := by rw [List.getElem?_append_left (by rw [List.length_set]; omega)]; exact gb2
    have g1 : deref (S4.set ck (.lst (zs ++ [.int (i : Int)])) ++ [Cell.lst (qs.map ruD)]) (.ref S.length) = some (.list (qs.map ruD)) := dreff _ _ _ (by
      rw [List.getElem?_append_right (by rw [List.length_set]; omega), List.length_set, show S.length - S4.length = 0 by omega]
      rfl)
    have g3 : ∀ x, (S4.set ck (.lst (zs ++ [.int (i : Int)])) ++ [Cell.lst (qs.map ruD)]).set bk x = (S4.set ck (.lst (zs ++ [.int (i : Int)]))).set bk x ++ [.lst (qs.map ruD)] := fun x => List.set_append_left _ _ (by rw [List.length_set]; omega)
    have hz : cs.length < sizeLine := szl' (by omega)
    simp -implicitDefEqProofs [p_law_heavy_book_4_b_8, g0, g1, g3, derefs, hz, ceD]
  refine ⟨S4, qs, .int (i : Int), ?_, D4, bb, by omega, by omega, wq⟩
  unfold p_law_heavy_book_4_b
  rw [v_forget, seq_nx s0, seq_nx e1]
  rw [← seq_assoc p_law_heavy_book_4_b_3, ← seq_assoc p_law_heavy_book_4_b_2, seq_nx e2, seq_nx s5, seq_nx s6, seq_nx s7, s8]
  rfl
theorem heavy_ok {l k : Nat} {μ : Store} {most : Nat} (hm : 1 ≤ most) (hm5 : most ≤ 5) (hb : BagAt l k μ) (hk : k ≤ 300000) :
    ∃ (μ' : Store) (B : List (List Ru)) (x : PyData), F__law_heavy_book [.ref l, .pd (.int (most : Int))] μ = .ok (.pd (.tuple [gbD B, x]), μ') ∧ Dr l μ μ' ∧ BagAt l (k + 3000) μ' ∧ WB B ∧ B.length ≤ most := by
  have lt := hb.lt
  obtain ⟨μ1, v, e1, d1, b1, v0, v1⟩ := take_ok hb (by omega) (m := (most : Int)) (by omega) (by omega)
  obtain ⟨m, rfl⟩ := Int.eq_ofNat_of_zero_le v0
  obtain ⟨n, hmn⟩ : ∃ n : Nat, n = m + 1 := ⟨_, rfl⟩
  have hn1 : (1 : Int) + (m : Int) = (n : Int) := by omega
  have s0 : p_law_heavy_book_0 [some (.ref l), some (.pd (.int (most : Int))), none, none, none, none, none, none, none, none, none, none, none, none, none, none, none] μ = .ok ((.nx, [some (.ref l), some (.pd (.int (most : Int))), some (.pd (.int (n : Int))), none, none, none, none, none, none, none, none, none, none, none, none, none, none]), μ1) := by
    simp -implicitDefEqProofs [p_law_heavy_book_0, e1, bindT, hn1]
  -- the lot
  obtain ⟨μ2, es, e2, d2, b2, p2⟩ := mixed_ok b1 (by omega) (ds := natsD (List.range n)) (by rw [List.length_map, List.length_range]; omega)
  rw [List.length_map, List.length_range] at b2
  obtain ⟨μ3, t, e3, d3, b3, t0, t1⟩ := take_ok b2 (by omega) (m := (n : Int)) (by omega) (by omega)
  obtain ⟨t', rfl⟩ := Int.eq_ofNat_of_zero_le t0
  obtain ⟨E, rfl, lE, hE⟩ := all_nats (xs := es) (P := fun i => i < n) (fun x hx => by
    obtain ⟨i, hi, rfl⟩ := List.mem_map.mp (p2.mem_iff.mp hx)
    exact ⟨i, rfl, by simpa using hi⟩)
  rw [p2.length_eq, List.length_map, List.length_range] at lE
  have cut : Zd.cutD (natsD E) none (some (1 + (t' : Int))) = natsD (E.take (t' + 1)) := by
    have e : (1 : Int) + (t' : Int) = ((t' + 1 : Nat) : Int) := by omega
    rw [e, cut_take]
    exact List.map_take.symm
  obtain ⟨L, eL, lL, hL⟩ : ∃ L : List Nat, gSorted [.list (natsD (E.take (t' + 1)))] = some (natsD L) ∧ L.length = (E.take (t' + 1)).length ∧ ∀ i ∈ L, i < n := by
    have hso := v_sorted ((E.take (t' + 1)).map fun (i : Nat) => (i : Int))
    rw [← nats_ints] at hso
    obtain ⟨L, h1, h2, h3⟩ := all_nats (xs := (isort ((E.take (t' + 1)).map fun (i : Nat) => (i : Int))).map PyData.int) (P := fun i => i < n) (fun x hx => by
      obtain ⟨z, hz, rfl⟩ := List.mem_map.mp hx
      obtain ⟨i, hi, rfl⟩ := List.mem_map.mp ((isort_perm _).mem_iff.mp hz)
      exact ⟨i, rfl, hE i (List.mem_of_mem_take hi)⟩)
    rw [List.length_map, (isort_perm _).length_eq, List.length_map] at h2
    exact ⟨L, hso.trans (by rw [h1]), h2, h3⟩
  have lL' : L.length ≤ n := by
    rw [lL, List.length_take]
    omega
  have s1 : p_law_heavy_book_1 [some (.ref l), some (.pd (.int (most : Int))), some (.pd (.int (n : Int))), none, none, none, none, none, none, none, none, none, none, none, none, none, none] μ1 = .ok ((.nx, [some (.ref l), some (.pd (.int (most : Int))), some (.pd (.int (n : Int))), some (.pd (.list (natsD L))), none, none, none, none, none, none, none, none, none, none, none, none, none]), μ3) := by
    have hz : (n : Int) ≤ 16777216 := by omega
    have hr : ((List.range n).map fun (k : Nat) => PyData.int (k : Int)) = natsD (List.range n) := rfl
    have hn0 : (0 : Int) ≤ (n : Int) := by omega
    simp -implicitDefEqProofs only [p_law_heavy_book_1, v_set, v_frz, v_callN, v_acons, v_anil, v_slL, v_callS, v_listR, v_oN, v_oS, v_op2, v_C, v_asI, Out.ok_bind, v_var 0 (d := .ref l), v_var 2 (d := .pd (.int (n : Int))), List.getElem?_cons_succ, List.getElem?_cons_zero, hz, hn0, and_self, if_true, Int.toNat_natCast, hr, e2, deref_pd, v_addI, e3, cut, v_derefs1, v_derefs0, Option.map_some, eL, bindT, eAdd, List.length_cons, List.length_nil]
    rfl
  -- the sizes
  obtain ⟨μ4, xs, e4, d4, b4, l4, p4⟩ := lc_draw (l := l) (a := 1) (v := 15) (n := n) (elt := eAdd (eC (.int 1)) (eCallS F__law_take (aCons (eVar 0) (aCons (eC (.int 4)) aNil)))) (env := [some (.ref l), some (.pd (.int (most : Int))), some (.pd (.int (n : Int))), some (.pd (.list (natsD L))), none, none, none, none, none, none, none, none, none, none, none, none, none]) (ea := eVar 2) (P := fun x => ∃ z, x = .int z ∧ 1 ≤ z ∧ z ≤ ((4 : Nat) : Int)) (by decide : 15 < 17) (by simp) (by omega) (by omega) b3 (fun d k' μ hk' b => size_elt (m := 4) rfl (by decide) (by decide) b hk')
  obtain ⟨ss, rfl, hs, hs1⟩ := all_ints p4
  rw [l4] at hs
  have s2 : p_law_heavy_book_2 [some (.ref l), some (.pd (.int (most : Int))), some (.pd (.int (n : Int))), some (.pd (.list (natsD L))), none, none, none, none, none, none, none, none, none, none, none, none, none] μ3 = .ok ((.nx, [some (.ref l), some (.pd (.int (most : Int))), some (.pd (.int (n : Int))), some (.pd (.list (natsD L))), some (.pd (.list (ss.map .int))), some (.ref μ4.length), some (.ref (μ4.length + 1)), none, none, none, none, none, none, none, none, none, none]), μ4 ++ [.lst [], .lst []]) := by
    simp -implicitDefEqProofs [p_law_heavy_book_2, e4, bindTs, bindT, sz]
  -- the ring
  have lm4 : μ4.length = μ.length := by rw [d4.len, d3.len, d2.len, d1.len]
  obtain ⟨S5, rs, e5, d5x, b5x, p5⟩ := mixed_ok (b4.app (ex := [.lst [], .lst []]) (by simp [isLls])) (by omega) (ds := natsD L) (by rw [List.length_map]; omega)
  obtain ⟨μ5, rfl, d5⟩ := d5x.app (by omega)
  obtain ⟨R, rfl, lR, hR⟩ := all_nats (xs := rs) (P := fun i => i < n) (fun x hx => by
    obtain ⟨i, hi, rfl⟩ := List.mem_map.mp (p5.mem_iff.mp hx)
    exact ⟨i, rfl, hL i hi⟩)
  rw [p5.length_eq, List.length_map] at lR
  have ok : HyOk ⟨n, L, ss, R⟩ := ⟨by show n ≤ 5; omega, hL, hR, lL', by show R.length ≤ n; omega, fun i hi => by
    have : PyData.int (i : Int) ∈ natsD R := p5.mem_iff.mpr (List.mem_map.mpr ⟨i, hi, rfl⟩)
    obtain ⟨j, hj, e⟩ := List.mem_map.mp this
    have : j = i := Int.ofNat.inj (PyData.int.inj e)
    rw [← this]
    exact hj, hs, fun z hz => hs1 z hz⟩
  have s3 : p_law_heavy_book_3 [some (.ref l), some (.pd (.int (most : Int))), some (.pd (.int (n : Int))), some (.pd (.list (natsD L))), some (.pd (.list (ss.map .int))), some (.ref μ4.length), some (.ref (μ4.length + 1)), none, none, none, none, none, none, none, none, none, none] (μ4 ++ [.lst [], .lst []]) = .ok ((.nx, HE l ⟨n, L, ss, R⟩ (.pd (.int (most : Int))) μ4.length (μ4.length + 1) none none none none none none none none none), μ5 ++ [.lst [], .lst []]) := by
    simp -implicitDefEqProofs [p_law_heavy_book_3, e5, bindT]
  have lm5 := d5.len
  have b5 : BagAt l (k + 20) μ5 := (b5x.unapp (by omega)).mono (by rw [List.length_map]; omega)
  obtain ⟨env', S, q1, ⟨e8, rfl⟩, μ', cs, zs, ex, rfl, d', b', lc, lz, wc, hex⟩ := for_rel (T := .nm 8) (b := p_law_heavy_book_4_b) (ei := iRg1 (eVar 2)) (env := HE l ⟨n, L, ss, R⟩ (.pd (.int (most : Int))) μ4.length (μ4.length + 1) none none none none none none none none none) (μ := μ5 ++ [.lst [], .lst []]) (fun j env S => (∃ e8, env = HE l ⟨n, L, ss, R⟩ (.pd (.int (most : Int))) μ4.length (μ4.length + 1) e8 none none none none none none none none) ∧ ∃ (μ' : Store) (cs : List (List Ru)) (zs : List PyData) (ex : Store), S = μ' ++ (.lst (cs.map ceD) :: .lst zs :: ex) ∧ Dr l μ5 μ' ∧ BagAt l (k + 20 + 300 * j) μ' ∧ cs.length = j ∧ zs.length = j ∧ (∀ c ∈ cs, WC n c) ∧ ∀ c ∈ ex, isLls c = false)
    (rg1_ok (n := n) rfl (by omega)) ⟨⟨none, rfl⟩, μ5, [], [], [], rfl, .refl b5, b5, rfl, rfl, by simp, by simp⟩ (fun _ _ _ _ => held_nil) (fun j d env S hd hP => by
    obtain ⟨⟨e8, rfl⟩, μ', cs, zs, ex, rfl, d', b', lc, lz, wc, hex⟩ := hP
    obtain ⟨hj, rfl⟩ := range_item hd
    have lm := d'.len
    have hex2 : ∀ c ∈ (Cell.lst (cs.map ceD) :: .lst zs :: ex), isLls c = false := fun c hc => by
      rcases List.mem_cons.mp hc with rfl | hc
      · rfl
      · rcases List.mem_cons.mp hc with rfl | hc
        · rfl
        · exact hex c hc
    obtain ⟨S2, rs, z, e3, d3, b3, w3⟩ := heavy_cell ok (y1 := .pd (.int (most : Int))) (bk := μ4.length) (ck := μ4.length + 1) (e15 := none) (c := j) (b'.app hex2) (by omega) hj (cs := cs) (zs := zs) (by omega) (by omega) (by rw [← lm5, ← lm]; simp) (by rw [← lm5, ← lm]; simp) (by omega) (by omega) (by omega) (e8 := none)
    obtain ⟨μ3, rfl, d4⟩ := d3.app (by omega)
    have lm3 := d4.len
    have es : ((μ3 ++ (Cell.lst (cs.map ceD) :: .lst zs :: ex)).set (μ4.length + 1) (.lst (zs ++ [z]))).set μ4.length (.lst ((cs ++ [rs]).map ceD)) ++ [.lst (rs.map ruD)] = μ3 ++ (.lst ((cs ++ [rs]).map ceD) :: .lst (zs ++ [z]) :: (ex ++ [.lst (rs.map ruD)])) := by
      rw [← lm5, ← lm, ← lm3]
      simp
    rw [es] at e3
    exact ⟨_, _, _, by simp [bindT], .inl e3, ⟨_, rfl⟩, μ3, cs ++ [rs], zs ++ [z], ex ++ [.lst (rs.map ruD)], rfl, d'.trans d4, (b3.unapp (by omega)).mono (by omega), by simp [lc], by simp [lz], fun y hy => by
      rcases List.mem_append.mp hy with h | h
      · exact wc y h
      · rw [List.mem_singleton.mp h]
        exact w3, fun y hy => by
      rcases List.mem_append.mp hy with h | h
      · exact hex y h
      · rw [List.mem_singleton.mp h]
        rfl⟩)
  rw [List.length_map, List.length_range] at b' lc
  have lm := d'.len
  have g1 : deref (μ' ++ (Cell.lst (cs.map ceD) :: .lst zs :: ex)) (.ref μ4.length) = some (.list (cs.map ceD)) := dreff _ _ _ (by rw [← lm5, ← lm]; simp)
  have g2 : deref (μ' ++ (Cell.lst (cs.map ceD) :: .lst zs :: ex)) (.ref (μ4.length + 1)) = some (.list zs) := dreff _ _ _ (by rw [← lm5, ← lm]; simp)
  have i2 : iLst (eVar 3) (HE l ⟨n, L, ss, R⟩ (.pd (.int (most : Int))) μ4.length (μ4.length + 1) e8 none none none none none none none none) (μ' ++ (Cell.lst (cs.map ceD) :: .lst zs :: ex)) = .ok ((L.map fun (i : Nat) => D.pd (.int (i : Int)), []), μ' ++ (Cell.lst (cs.map ceD) :: .lst zs :: ex)) := by
    simp [iLst, srcL]
  have c2 := comp_mapA (g := []) (T := .nm 8) (μ := μ' ++ (Cell.lst (cs.map ceD) :: .lst zs :: ex)) (elt := eTup (aCons (eIx (eVar 4) (eVar 8)) (aCons (eC (.int 1)) aNil))) (env := wipeE (HE l ⟨n, L, ss, R⟩ (.pd (.int (most : Int))) μ4.length (μ4.length + 1) e8 none none none none none none none none) [8]) held_nil (fun i : Nat => D.pd (.int (i : Int))) (fun i => D.pd (.tuple [.int (ss.getD i 0), .int 1])) L (fun i hi => ⟨(HE l ⟨n, L, ss, R⟩ (.pd (.int (most : Int))) μ4.length (μ4.length + 1) e8 none none none none none none none none).set 8 (some (.pd (.int (i : Int)))), by simp [bindT, wipeE], by
      have : atI (ss.map PyData.int) (i : Int) = some (.int (ss.getD i 0)) := by
        rw [at_nat, List.getElem?_map, List.getD_eq_getElem?_getD, List.getElem?_eq_getElem (show i < ss.length by rw [hs]; exact hL i hi)]
        rfl
      simp [sz, this]⟩)
  have l3 := lcD_eq (vs := [8]) i2 (by rw [List.length_map]; exact sz (by omega)) c2
  have s5 : p_law_heavy_book_5 (HE l ⟨n, L, ss, R⟩ (.pd (.int (most : Int))) μ4.length (μ4.length + 1) e8 none none none none none none none none) (μ' ++ (Cell.lst (cs.map ceD) :: .lst zs :: ex)) = .ok ((.rt (.pd (.tuple [gbD cs, .tuple [.tuple zs, .tuple (natsD L), .tuple (L.map fun i => .tuple [.int (ss.getD i 0), .int 1])]])), HE l ⟨n, L, ss, R⟩ (.pd (.int (most : Int))) μ4.length (μ4.length + 1) e8 none none none none none none none none), μ' ++ (Cell.lst (cs.map ceD) :: .lst zs :: ex)) := by
    simp -implicitDefEqProofs [p_law_heavy_book_5, g1, g2, derefs, l3, sz, gbD]
  have dd := ((((d1.trans d2).trans d3).trans d4).trans d5).trans d'
  have bb : BagAt l (k + 3000) μ' := b'.mono (by omega)
  exact ⟨μ', cs, _, fnS_pd (fnL_run ((congrFun (congrFun parts_law_heavy_book _) _).trans ((seq_nx s0).trans ((seq_nx s1).trans ((seq_nx s2).trans ((seq_nx s3).trans ((seq_nx q1).trans s5)))))) rfl) dd bb, dd, bb, ⟨by omega, by omega, fun c hc => by rw [lc]; exact wc c hc⟩, by omega⟩
/-- a book: light, heavy, any -/
theorem book_ok {l k : Nat} {μ : Store} {most : Nat} (hm : 1 ≤ most) (hm5 : most ≤ 5) (hb : BagAt l k μ) (hk : k ≤ 200000) :
    ∃ (μ' : Store) (B : List (List Ru)), F__law_book [.ref l, .pd (.int (most : Int))] μ = .ok (.pd (gbD B), μ') ∧ Dr l μ μ' ∧ BagAt l (k + 4000) μ' ∧ WB B ∧ B.length ≤ most := by
  obtain ⟨μ1, v, e1, d1, b1, v0, v1⟩ := take_ok hb (by omega) (m := 5) (by decide) (by decide)
  have s0 : p_law_book_0 [some (.ref l), some (.pd (.int (most : Int))), none] μ = .ok ((.nx, [some (.ref l), some (.pd (.int (most : Int))), some (.pd (.int v))]), μ1) := by
    simp -implicitDefEqProofs [p_law_book_0, e1, bindT]
  by_cases h2 : v < 2
  · obtain ⟨μ2, B, x, e2, d2, b2, w2, l2⟩ := light_ok hm hm5 b1 (by omega)
    have s1 : p_law_book_1 [some (.ref l), some (.pd (.int (most : Int))), some (.pd (.int v))] μ1 = .ok ((.rt (.pd (gbD B)), [some (.ref l), some (.pd (.int (most : Int))), some (.pd (.int v))]), μ2) := by
      simp -implicitDefEqProofs [p_law_book_1, p_law_book_1t, h2, e2]
    have bb : BagAt l (k + 4000) μ2 := b2.mono (by omega)
    exact ⟨μ2, B, fnS_pd (ex := []) (by rw [List.append_nil]; exact fnL_run ((congrFun (congrFun parts_law_book _) _).trans ((seq_nx s0).trans (seq_rt s1))) rfl) (d1.trans d2) bb, d1.trans d2, bb, w2, l2⟩
  · have s1 : p_law_book_1 [some (.ref l), some (.pd (.int (most : Int))), some (.pd (.int v))] μ1 = .ok ((.nx, [some (.ref l), some (.pd (.int (most : Int))), some (.pd (.int v))]), μ1) := by
      simp -implicitDefEqProofs [p_law_book_1, p_law_book_1t, h2]
    by_cases h4 : v < 4
    · obtain ⟨μ2, B, x, e2, d2, b2, w2, l2⟩ := heavy_ok hm hm5 b1 (by omega)
      have s2 : p_law_book_2 [some (.ref l), some (.pd (.int (most : Int))), some (.pd (.int v))] μ1 = .ok ((.rt (.pd (gbD B)), [some (.ref l), some (.pd (.int (most : Int))), some (.pd (.int v))]), μ2) := by
        simp -implicitDefEqProofs [p_law_book_2, h4, e2]
      have bb : BagAt l (k + 4000) μ2 := b2.mono (by omega)
      exact ⟨μ2, B, fnS_pd (ex := []) (by rw [List.append_nil]; exact fnL_run ((congrFun (congrFun parts_law_book _) _).trans ((seq_nx s0).trans ((seq_nx s1).trans s2))) rfl) (d1.trans d2) bb, d1.trans d2, bb, w2, l2⟩
    · obtain ⟨μ2, B, e2, d2, b2, w2, l2⟩ := any_ok hm hm5 b1 (by omega)
      have s2 : p_law_book_2 [some (.ref l), some (.pd (.int (most : Int))), some (.pd (.int v))] μ1 = .ok ((.rt (.pd (gbD B)), [some (.ref l), some (.pd (.int (most : Int))), some (.pd (.int v))]), μ2) := by
        simp -implicitDefEqProofs [p_law_book_2, h4, e2]
      have bb : BagAt l (k + 4000) μ2 := b2.mono (by omega)
      exact ⟨μ2, B, fnS_pd (ex := []) (by rw [List.append_nil]; exact fnL_run ((congrFun (congrFun parts_law_book _) _).trans ((seq_nx s0).trans ((seq_nx s1).trans s2))) rfl) (d1.trans d2) bb, d1.trans d2, bb, w2, l2⟩
end P55

set_option Elab.async false
set_option linter.all false
set_option maxRecDepth 100000
set_option maxHeartbeats 1000000
/-! Scales by going along the links, plain: what is found, and None of a book that is not even. -/
namespace P55
open PySem PySem.Spec PyProof.Rows L2 Zd
abbrev Sg := Nat → Option Rat
def put (σ : Sg) (o : Nat) (q : Rat) : Sg := fun c => if c = o then some q else σ c
/-- how many are not told yet -/
def unt (σ : Sg) : Nat → Nat
  | 0 => 0
  | m + 1 => unt σ m + (if (σ m).isNone then 1 else 0)
theorem unt_put {σ : Sg} {o : Nat} {q : Rat} (hs : σ o = none) : ∀ m, unt (put σ o q) m + (if o < m then 1 else 0) = unt σ m
  | 0 => by simp [unt]
  | m + 1 => by
    have ih := unt_put (q := q) hs m
    unfold unt
    by_cases e : m = o
    · subst e
      simp only [put, if_true, hs] at ih ⊢
      have : ¬ m < m := by omega
      simp only [this, if_false] at ih
      simp
      exact ih
    · have h1 : put σ o q m = σ m := by simp [put, e]
      rw [h1]
      by_cases h2 : o < m
      · have h3 : (if o < m + 1 then 1 else 0) = (1 : Nat) := if_pos (by omega)
        rw [if_pos h2] at ih
        rw [h3]
        omega
      · have h3 : (if o < m + 1 then 1 else 0) = (0 : Nat) := if_neg (by omega)
        rw [if_neg h2] at ih
        rw [h3]
        omega
theorem unt_le (σ : Sg) : ∀ m, unt σ m ≤ m
  | 0 => Nat.le_refl _
  | m + 1 => by
    have := unt_le σ m
    unfold unt
    split <;> omega
/-- one neighbour looked at: none says that the book is not even -/
def gstp (f : Nat → Nat → Rat) (h : Nat) (s : Sg × List Nat) (o : Nat) : Option (Sg × List Nat) :=
  if f h o = 0 then (if f o h = 0 then some s else none)
  else if f h o * f o h ≤ 0 then none
  else match s.1 o with
    | some w => if w = (s.1 h).getD 1 * (f h o / f o h) then some s else none
    | none => some (put s.1 o ((s.1 h).getD 1 * (f h o / f o h)), s.2 ++ [o])
def ginn (f : Nat → Nat → Rat) (h : Nat) (s : Sg × List Nat) : Nat → Option (Sg × List Nat)
  | 0 => some s
  | m + 1 => (ginn f h s m).bind fun s' => gstp f h s' m
def gwhl (f : Nat → Nat → Rat) (n : Nat) : Nat → Sg × List Nat → Option (Sg × List Nat)
  | 0, s => some s
  | k + 1, s => match s.2.getLast? with
    | none => some s
    | some h => (ginn f h (s.1, s.2.dropLast) n).bind (gwhl f n k)
def ini (σ : Sg) (m : Nat) : Sg × List Nat := match σ m with
  | some _ => (σ, [])
  | none => (put σ m 1, [m])
def gscl (f : Nat → Nat → Rat) (n : Nat) : Nat → Option Sg
  | 0 => some fun _ => none
  | m + 1 => (gscl f n m).bind fun σ => (gwhl f n (2 * n) (ini σ m)).map (·.1)
theorem ginn_none {f : Nat → Nat → Rat} {h : Nat} {s : Sg × List Nat} {j : Nat} (hj : ginn f h s j = none) : ∀ m, j ≤ m → ginn f h s m = none
  | 0, hm => by rw [show j = 0 by omega] at hj; exact hj
  | m + 1, hm => by
    by_cases e : j = m + 1
    · rw [← e]
      exact hj
    · unfold ginn
      rw [ginn_none hj m (by omega)]
      rfl
theorem gscl_none {f : Nat → Nat → Rat} {n j : Nat} (hj : gscl f n j = none) : ∀ m, j ≤ m → gscl f n m = none
  | 0, hm => by rw [show j = 0 by omega] at hj; exact hj
  | m + 1, hm => by
    by_cases e : j = m + 1
    · rw [← e]
      exact hj
    · unfold gscl
      rw [gscl_none hj m (by omega)]
      rfl
/-- the numbers' size when k cells are told -/
abbrev SB (k : Nat) : Nat := 2 ^ (23 * k)
theorem SB.mono {j k : Nat} (h : j ≤ k) : SB j ≤ SB k := Nat.pow_le_pow_right (by decide) (Nat.mul_le_mul_left _ h)
/-- the pair's factors fit what is told -/
def Lk (f : Nat → Nat → Rat) (σ : Sg) (c o : Nat) : Prop := (f c o = 0 ∧ f o c = 0) ∨ ∃ w w', σ c = some w ∧ σ o = some w' ∧ w * f c o = w' * f o c
theorem Lk.put {f : Nat → Nat → Rat} {σ : Sg} {c o d : Nat} {q : Rat} (h : Lk f σ c o) (hd : σ d = none) : Lk f (put σ d q) c o := by
  rcases h with h | ⟨w, w', h1, h2, h3⟩
  · exact .inl h
  · refine .inr ⟨w, w', ?_, ?_, h3⟩
    · have : c ≠ d := fun e => by rw [e, hd] at h1; cases h1
      simp [P55.put, this, h1]
    · have : o ≠ d := fun e => by rw [e, hd] at h2; cases h2
      simp [P55.put, this, h2]
/-- what the factors are like -/
structure Fac (n : Nat) (f : Nat → Nat → Rat) : Prop where
  n1 : 1 ≤ n
  n5 : n ≤ 5
  fb : ∀ i j, i < n → j < n → Bd 1200 6000 (f i j)
structure Gv (n : Nat) (f : Nat → Nat → Rat) (e : Option Nat) (s : Sg × List Nat) : Prop where
  val : ∀ c w, c < n → s.1 c = some w → 0 < w ∧ Bd (SB (n - unt s.1 n)) (SB (n - unt s.1 n)) w
  cur : ∀ c, c ∈ s.2 ∨ e = some c → c < n ∧ s.1 c ≠ none
  fin : ∀ c, c < n → s.1 c ≠ none → c ∉ s.2 → e ≠ some c → ∀ o, o < n → Lk f s.1 c o
section
variable {n : Nat} {f : Nat → Nat → Rat}
theorem Fac.sm (F : Fac n f) {i j : Nat} (hi : i < n) (hj : j < n) : Sm (f i j) := Sm.of200 (F.fb i j hi hj) (by decide) (by decide)
theorem rat_pos_mul {a b : Rat} (h : ¬ a * b ≤ 0) : a ≠ 0 ∧ b ≠ 0 ∧ 0 < a / b := by
  have h1 : 0 < a * b := Rat.not_le.mp h
  have hb : b ≠ 0 := fun z => by rw [z, Rat.mul_zero] at h1; exact absurd h1 (by decide)
  have ha : a ≠ 0 := fun z => by rw [z, Rat.zero_mul] at h1; exact absurd h1 (by decide)
  refine ⟨ha, hb, ?_⟩
  have e : a / b = a * b * (b⁻¹ * b⁻¹) := by grind
  rw [e]
  have hi : b⁻¹ ≠ 0 := fun z => by
    have := Rat.mul_inv_cancel b hb
    rw [z, Rat.mul_zero] at this
    exact absurd this (by decide)
  have : 0 < b⁻¹ * b⁻¹ := by
    rcases Classical.em (0 < b⁻¹) with g | g
    · exact Rat.mul_pos g g
    · have g1 := Rat.not_lt.mp g
      have g2 : 0 < -(b⁻¹) := by grind
      have := Rat.mul_pos g2 g2
      grind
  exact Rat.mul_pos h1 this
theorem ratio_bd (F : Fac n f) {i j : Nat} (hi : i < n) (hj : j < n) (h0 : f j i ≠ 0) : Bd (2 ^ 23) (2 ^ 23) (f i j / f j i) := ((F.fb i j hi hj).div (F.fb j i hj hi) h0).mono (by decide) (by decide)
theorem due_bd (F : Fac n f) {i j k : Nat} (hi : i < n) (hj : j < n) (h0 : f j i ≠ 0) {v : Rat} (hv : Bd (SB k) (SB k) v) : Bd (SB (k + 1)) (SB (k + 1)) (v * (f i j / f j i)) := by
  have := hv.mul (ratio_bd F hi hj h0)
  have e : SB k * 2 ^ 23 = SB (k + 1) := by
    show 2 ^ (23 * k) * 2 ^ 23 = 2 ^ (23 * (k + 1))
    rw [← Nat.pow_add]
    rfl
  rw [e] at this
  exact this
theorem unt_pos {σ : Sg} {o : Nat} (hs : σ o = none) : ∀ m, o < m → 1 ≤ unt σ m
  | 0, h => by omega
  | m + 1, h => by
    unfold unt
    by_cases e : o = m
    · subst e
      simp [hs]
    · have := unt_pos hs m (by omega)
      omega
theorem gstp_iv (F : Fac n f) {h o : Nat} {s s' : Sg × List Nat} (I : Gv n f (some h) s) (ho : o < n) (e : gstp f h s o = some s') :
    Gv n f (some h) s' ∧ Lk f s'.1 h o ∧ (∀ c d, Lk f s.1 c d → Lk f s'.1 c d) ∧ (∀ c, s.1 c ≠ none → s'.1 c ≠ none) ∧ unt s'.1 n + s'.2.length = unt s.1 n + s.2.length := by
  obtain ⟨hh, hn⟩ := I.cur h (.inr rfl)
  obtain ⟨v, hv⟩ := Option.ne_none_iff_exists'.mp hn
  unfold gstp at e
  by_cases hz : f h o = 0
  · rw [if_pos hz] at e
    by_cases hz2 : f o h = 0
    · rw [if_pos hz2] at e
      cases e
      exact ⟨I, .inl ⟨hz, hz2⟩, fun _ _ k => k, fun _ k => k, rfl⟩
    · rw [if_neg hz2] at e
      cases e
  · rw [if_neg hz] at e
    by_cases hp : f h o * f o h ≤ 0
    · rw [if_pos hp] at e
      cases e
    · rw [if_neg hp, hv] at e
      obtain ⟨h1, h2, h3⟩ := rat_pos_mul hp
      have val : v * f h o = v * (f h o / f o h) * f o h := by grind
      cases hs : s.1 o with
      | some w =>
        rw [hs] at e
        dsimp only [Option.getD] at e
        by_cases hw : w = v * (f h o / f o h)
        · rw [if_pos hw] at e
          cases e
          exact ⟨I, .inr ⟨v, w, hv, hs, by rw [hw]; exact val⟩, fun _ _ k => k, fun _ k => k, rfl⟩
        · rw [if_neg hw] at e
          cases e
      | none =>
        rw [hs] at e
        dsimp only [Option.getD] at e
        cases e
        have ne : h ≠ o := fun z => by rw [← z, hv] at hs; cases hs
        have up := unt_put (q := v * (f h o / f o h)) hs n
        rw [if_pos ho] at up
        have u1 := unt_pos hs n ho
        have ul := unt_le s.1 n
        have ek : n - unt (put s.1 o (v * (f h o / f o h))) n = n - unt s.1 n + 1 := by omega
        have lk : ∀ c d, Lk f s.1 c d → Lk f (put s.1 o (v * (f h o / f o h))) c d := fun c d k => k.put hs
        obtain ⟨vp, vb⟩ := I.val h v hh hv
        refine ⟨⟨fun c w hc hw => ?_, fun c hc => ?_, fun c hc hn hL he d hd => ?_⟩, ?_, lk, fun c hc => ?_, ?_⟩
        · dsimp only at hw ⊢
          rw [ek]
          by_cases ec : c = o
          · subst ec
            simp only [put, if_true, Option.some.injEq] at hw
            subst hw
            exact ⟨Rat.mul_pos vp h3, due_bd F hh hc h2 vb⟩
          · simp only [put, ec, if_false] at hw
            obtain ⟨w1, w2⟩ := I.val c w hc hw
            exact ⟨w1, w2.mono (SB.mono (by omega)) (SB.mono (by omega))⟩
        · dsimp only at hc ⊢
          by_cases ec : c = o
          · subst ec
            exact ⟨ho, by simp [put]⟩
          · have hc2 : c ∈ s.2 ∨ some h = some c := by
              rcases hc with hc | hc
              · rcases List.mem_append.mp hc with hc | hc
                · exact .inl hc
                · exact absurd (List.mem_singleton.mp hc) ec
              · exact .inr hc
            obtain ⟨k1, k2⟩ := I.cur c hc2
            exact ⟨k1, by simpa [put, ec] using k2⟩
        · dsimp only at hn hL ⊢
          have ec : c ≠ o := fun z => hL (List.mem_append.mpr (.inr (List.mem_singleton.mpr z)))
          simp only [put, ec, if_false] at hn
          exact lk c d (I.fin c hc hn (fun z => hL (List.mem_append_left _ z)) he d hd)
        · exact .inr ⟨v, v * (f h o / f o h), by simp [put, ne, hv], by simp [put], val⟩
        · dsimp only
          simp only [put]
          split
          · simp
          · exact hc
        · simp only [List.length_append, List.length_singleton]
          omega
theorem ginn_iv (F : Fac n f) {h : Nat} {s : Sg × List Nat} (I : Gv n f (some h) s) : ∀ m s', m ≤ n → ginn f h s m = some s' →
    Gv n f (some h) s' ∧ (∀ d, d < m → Lk f s'.1 h d) ∧ (∀ c, s.1 c ≠ none → s'.1 c ≠ none) ∧ unt s'.1 n + s'.2.length = unt s.1 n + s.2.length
  | 0, s', _, e => by
    cases e
    exact ⟨I, fun d hd => by omega, fun _ k => k, rfl⟩
  | m + 1, s', hm, e => by
    unfold ginn at e
    cases e1 : ginn f h s m with
    | none => rw [e1] at e; cases e
    | some s1 =>
      rw [e1] at e
      obtain ⟨i1, i2, i3, i4⟩ := ginn_iv F I m s1 (by omega) e1
      obtain ⟨j1, j2, j3, j4, j5⟩ := gstp_iv F i1 (show m < n by omega) e
      refine ⟨j1, fun d hd => ?_, fun c k => j4 c (i3 c k), j5.trans i4⟩
      by_cases ed : d = m
      · subst ed
        exact j2
      · exact j3 _ _ (i2 d (by omega))
theorem gpop {h : Nat} {s : Sg × List Nat} (I : Gv n f none s) (hl : s.2.getLast? = some h) : Gv n f (some h) (s.1, s.2.dropLast) := by
  have hcut : s.2 = s.2.dropLast ++ [h] := by
    rw [List.getLast?_eq_some_iff] at hl
    obtain ⟨ys, e⟩ := hl
    rw [e]
    simp
  refine ⟨I.val, fun c hc => ?_, fun c hc hn hL he o ho => ?_⟩
  · rcases hc with hc | hc
    · exact I.cur c (.inl (by rw [hcut]; exact List.mem_append_left _ hc))
    · cases hc
      exact I.cur h (.inl (List.mem_of_getLast? hl))
  · refine I.fin c hc hn (fun z => ?_) (by simp) o ho
    rw [hcut] at z
    rcases List.mem_append.mp z with z | z
    · exact hL z
    · exact he (by rw [List.mem_singleton.mp z])
theorem gdone {h : Nat} {s : Sg × List Nat} (I : Gv n f (some h) s) (hn : ∀ d, d < n → Lk f s.1 h d) : Gv n f none s := by
  refine ⟨I.val, fun c hc => I.cur c (hc.elim .inl fun z => by cases z), fun c hc hc2 hL he o ho => ?_⟩
  by_cases e : h = c
  · subst e
    exact hn o ho
  · exact I.fin c hc hc2 hL (fun z => e (Option.some.inj z)) o ho
theorem gwhl_iv (F : Fac n f) : ∀ (k : Nat) (s s' : Sg × List Nat), Gv n f none s → unt s.1 n + s.2.length ≤ k → gwhl f n k s = some s' → Gv n f none s' ∧ s'.2 = [] ∧ ∀ c, s.1 c ≠ none → s'.1 c ≠ none
  | 0, s, s', I, hk, e => by
    cases e
    exact ⟨I, List.length_eq_zero_iff.mp (by omega), fun c hc => hc⟩
  | k + 1, s, s', I, hk, e => by
    unfold gwhl at e
    cases hl : s.2.getLast? with
    | none =>
      rw [hl] at e
      cases e
      exact ⟨I, List.getLast?_eq_none_iff.mp hl, fun c hc => hc⟩
    | some h =>
      rw [hl] at e
      dsimp only at e
      have hne : s.2 ≠ [] := fun z => by rw [z] at hl; cases hl
      cases e1 : ginn f h (s.1, s.2.dropLast) n with
      | none => rw [e1] at e; cases e
      | some s1 =>
        rw [e1] at e
        obtain ⟨i1, i2, i3, i4⟩ := ginn_iv F (gpop I hl) n s1 (Nat.le_refl _) e1
        have hd : s.2.dropLast.length = s.2.length - 1 := List.length_dropLast ..
        have hp : 0 < s.2.length := List.length_pos_iff.mpr hne
        obtain ⟨r1, r2, r3⟩ := gwhl_iv F k s1 s' (gdone i1 i2) (by simp only [hd] at i4; omega) e
        exact ⟨r1, r2, fun c hc => r3 c (i3 c hc)⟩
/-- what stands when some cells have been gone from -/
structure Gt (n : Nat) (f : Nat → Nat → Rat) (σ : Sg) : Prop where
  val : ∀ c w, c < n → σ c = some w → 0 < w ∧ Bd (SB (n - unt σ n)) (SB (n - unt σ n)) w
  fin : ∀ c, c < n → σ c ≠ none → ∀ o, o < n → Lk f σ c o
theorem gini {σ : Sg} {m : Nat} (T : Gt n f σ) (hm : m < n) : Gv n f none (ini σ m) ∧ (ini σ m).1 m ≠ none ∧ (∀ c, σ c ≠ none → (ini σ m).1 c ≠ none) ∧ unt (ini σ m).1 n + (ini σ m).2.length ≤ 2 * n := by
  unfold ini
  cases hs : σ m with
  | some w =>
    refine ⟨⟨T.val, fun c hc => ?_, fun c hc hn _ _ o ho => T.fin c hc hn o ho⟩, by simp [hs], fun c hc => hc, ?_⟩
    · rcases hc with hc | hc
      · simp at hc
      · cases hc
    · have := unt_le σ n
      simp
      omega
  | none =>
    have up := unt_put (q := 1) hs n
    rw [if_pos hm] at up
    have u1 := unt_pos hs n hm
    have ul := unt_le σ n
    refine ⟨⟨fun c w hc hw => ?_, fun c hc => ?_, fun c hc hn hL _ o ho => ?_⟩, by simp [put], fun c hc => ?_, ?_⟩
    · dsimp only at hw ⊢
      by_cases ec : c = m
      · subst ec
        simp only [put, if_true, Option.some.injEq] at hw
        subst hw
        refine ⟨by decide, ?_, ?_⟩
        · exact Nat.one_le_two_pow
        · exact Nat.one_le_two_pow
      · simp only [put, ec, if_false] at hw
        obtain ⟨w1, w2⟩ := T.val c w hc hw
        exact ⟨w1, w2.mono (SB.mono (by omega)) (SB.mono (by omega))⟩
    · rcases hc with hc | hc
      · rw [List.mem_singleton.mp hc]
        exact ⟨hm, by simp [put]⟩
      · cases hc
    · dsimp only at hn hL ⊢
      have ec : c ≠ m := fun z => hL (by simp [z])
      simp only [put, ec, if_false] at hn
      exact (T.fin c hc hn o ho).put hs
    · dsimp only
      simp only [put]
      split
      · simp
      · exact hc
    · have := unt_le (put σ m 1) n
      simp
      omega
theorem gscl_told (F : Fac n f) : ∀ m σ, m ≤ n → gscl f n m = some σ → Gt n f σ ∧ ∀ c, c < m → σ c ≠ none
  | 0, σ, _, e => by
    cases e
    exact ⟨⟨(fun c w _ hw => by cases hw), fun c _ hn => absurd rfl hn⟩, fun c hc => by omega⟩
  | m + 1, σ, hm, e => by
    unfold gscl at e
    cases e1 : gscl f n m with
    | none => rw [e1] at e; cases e
    | some σ1 =>
      rw [e1] at e
      dsimp only [Option.bind] at e
      cases e2 : gwhl f n (2 * n) (ini σ1 m) with
      | none => rw [e2] at e; cases e
      | some s2 =>
        rw [e2] at e
        cases e
        obtain ⟨t1, t2⟩ := gscl_told F m σ1 (by omega) e1
        obtain ⟨j1, j2, j3, j4⟩ := gini t1 (show m < n by omega)
        obtain ⟨r1, r2, r3⟩ := gwhl_iv F _ _ _ j1 j4 e2
        refine ⟨⟨r1.val, fun c hc hn o ho => r1.fin c hc hn (by rw [r2]; simp) (by simp) o ho⟩, fun c hc => ?_⟩
        by_cases ec : c = m
        · subst ec
          exact r3 c j2
        · exact r3 c (j3 c (t2 c (by omega)))
/-- the scales: positive, by them the factors are even, not large -/
structure Sca (n : Nat) (f : Nat → Nat → Rat) (s : Nat → Rat) : Prop where
  pos : ∀ i, i < n → 0 < s i
  sym : ∀ i j, i < n → j < n → s i * f i j = s j * f j i
  bd : ∀ i, i < n → Bd (2 ^ 115) (2 ^ 115) (s i)
theorem gscl_sca (F : Fac n f) {σ : Sg} (h : gscl f n n = some σ) : Sca n f (fun i => (σ i).getD 1) ∧ ∀ i, i < n → σ i = some ((σ i).getD 1) := by
  obtain ⟨T, hn⟩ := gscl_told F n σ (Nat.le_refl _) h
  have n5 := F.n5
  have at_ : ∀ i, i < n → σ i = some ((σ i).getD 1) := fun i hi => by
    obtain ⟨w, hw⟩ := Option.ne_none_iff_exists'.mp (hn i hi)
    rw [hw]
    rfl
  refine ⟨⟨fun i hi => (T.val i _ hi (at_ i hi)).1, fun i j hi hj => ?_, fun i hi => (T.val i _ hi (at_ i hi)).2.mono ?_ ?_⟩, at_⟩
  · rcases T.fin i hi (hn i hi) j hj with ⟨h1, h2⟩ | ⟨w, w', h1, h2, h3⟩
    · rw [h1, h2, Rat.mul_zero, Rat.mul_zero]
    · rw [h1, h2]
      exact h3
  · exact SB.mono (show n - unt σ n ≤ 5 by omega)
  · exact SB.mono (show n - unt σ n ≤ 5 by omega)
end
end P55

set_option Elab.async false
set_option linter.all false
set_option maxRecDepth 100000
set_option maxHeartbeats 1000000
/-! The program goes along the links as the plain computation does. -/
namespace P55
open PySem PySem.Spec PyProof.Rows L2 Zd
/-- the statement returns None -/
def RtN (o : Out ((Fl × Zd.Env) × Store)) : Prop := match o with
  | .ok ((.rt (.pd .none), _), _) => True
  | _ => False
theorem RtN.ex {o : Out ((Fl × Zd.Env) × Store)} (h : RtN o) : ∃ env μ, o = .ok ((.rt (.pd .none), env), μ) := by
  cases o with
  | ok p =>
    obtain ⟨⟨fl, env⟩, μ⟩ := p
    cases fl with
    | rt d =>
      cases d with
      | pd d => cases d with
        | none => exact ⟨env, μ, rfl⟩
        | _ => exact (show False from h).elim
      | _ => exact (show False from h).elim
    | _ => exact (show False from h).elim
  | _ => exact (show False from h).elim
/-- the dict holds what is told -/
structure En (n : Nat) (kvs : List (Key × PyData)) (σ : Sg) : Prop where
  at_ : ∀ i : Nat, i < n → lk kvs (.inl (i : Int)) = (σ i).map fr
  len : kvs.length + unt σ n ≤ n
theorem En.small {n : Nat} {kvs : List (Key × PyData)} {σ : Sg} (h : En n kvs σ) (hn : n ≤ 5) : kvs.length < sizeLine := small1000 (by have := h.len; omega)
theorem En.put {n : Nat} {kvs : List (Key × PyData)} {σ : Sg} (h : En n kvs σ) {o : Nat} (ho : o < n) (hs : σ o = none) (q : Rat) : En n (pt kvs (.inl (o : Int)) (fr q)) (put σ o q) := by
  refine ⟨fun i hi => ?_, ?_⟩
  · rw [lk_pt]
    by_cases e : i = o
    · subst e
      simp [P55.put]
    · have e2 : ¬ ((.inl (i : Int) : Key) = .inl (o : Int)) := fun z => e (by have := Sum.inl.inj z; omega)
      rw [if_neg e2, h.at_ i hi]
      simp [P55.put, e]
  · have h1 := pt_len kvs (.inl (o : Int) : Key) (fr q)
    have h2 := unt_put (q := q) hs n
    rw [if_pos ho] at h2
    have := h.len
    omega
@[simp] theorem isN_fr (q : Rat) : isNoneB (fr q) = false := rfl
def intsD (L : List Nat) : List PyData := L.map fun (i : Nat) => PyData.int (i : Int)
@[simp] theorem intsD_len (L : List Nat) : (intsD L).length = L.length := by simp [intsD]
@[simp] theorem intsD_snoc (L : List Nat) (o : Nat) : intsD (L ++ [o]) = intsD L ++ [.int (o : Int)] := by simp [intsD]
/-- what the program reads of a book -/
structure Bk (b : PyData) (n : Nat) (f : Nat → Nat → Rat) : Prop where
  fac : ∀ i j : Nat, i < n → j < n → F_factor_of [b, .int (i : Int), .int (j : Int)] = .ok (fr (f i j))
  len : fLen [b] = some (.int (n : Int))
section
variable {b : PyData} {n : Nat} {f : Nat → Nat → Rat} {h o : Nat} {s : Sg × List Nat} {kvs : List (Key × PyData)} {ex : Store}
theorem Sm.SB {k : Nat} {q : Rat} (h : Bd (SB k) (SB k) q) (hk : k ≤ 20) : Sm q := h.sm (Nat.pow_lt_pow_right (by decide) (by omega)) (Nat.pow_lt_pow_right (by decide) (by omega))
theorem ratio_le {a c : Rat} (hc : c ≠ 0) : a / c ≤ 0 ↔ a * c ≤ 0 := by
  have e : a * c = a / c * (c * c) := by grind
  have hp : 0 < c * c := by
    rcases Classical.em (0 < c) with g | g
    · exact Rat.mul_pos g g
    · have g1 := Rat.not_lt.mp g
      have g2 : 0 < -c := by grind
      have := Rat.mul_pos g2 g2
      grind
  constructor
  · intro z
    refine Rat.not_lt.mp fun y => ?_
    refine absurd z (Rat.not_le.mpr ?_)
    have := (rat_pos_mul (Rat.not_le.mpr y)).2.2
    exact this
  · intro z
    refine Rat.not_lt.mp fun y => ?_
    have := Rat.mul_pos y hp
    rw [← e] at this
    exact absurd z (Rat.not_le.mpr this)
theorem beside_ok (B : Bk b n f) (F : Fac n f) (hh : h < n) (ho : o < n) {v : Rat} {k : Nat} (hk : k ≤ 10) (hv : Bd (SB k) (SB k) v) :
    F_scale_beside [b, .int (h : Int), .int (o : Int), fr v] = .ok (if f h o * f o h ≤ 0 then .none else fr (v * (f h o / f o h))) := by
  have e1 := B.fac h o hh ho
  have e2 := B.fac o h ho hh
  by_cases hz : f o h = 0
  · rw [if_pos (by rw [hz, Rat.mul_zero]; exact Rat.le_refl)]
    rw [hz] at e2
    unfold F_scale_beside fnP ev_scale_beside
    simp [frz, bindTs, bindT, e1, e2, zero_fr]
  · have e3 := F_over_ok (F.sm hh ho) (F.sm ho hh) hz
    have sr : Sm (f h o / f o h) := (ratio_bd F hh ho hz).sm (Nat.pow_lt_pow_right (by decide) (by decide)) (Nat.pow_lt_pow_right (by decide) (by decide))
    have e4 := F_compare_ok sr sm0
    by_cases hp : f h o * f o h ≤ 0
    · rw [if_pos hp]
      have hr := (ratio_le hz).mpr hp
      have sg : sgn (f h o / f o h) 0 ≤ 0 := by
        unfold sgn
        rw [if_neg (Rat.not_lt.mpr hr)]
        split <;> decide
      unfold F_scale_beside fnP ev_scale_beside
      simp [frz, bindTs, bindT, e1, e2, e3, zero_fr, hz, e4, sg]
    · rw [if_neg hp]
      have hr : 0 < f h o / f o h := (rat_pos_mul hp).2.2
      have sg : sgn (f h o / f o h) 0 = 1 := by
        unfold sgn
        rw [if_pos hr, if_neg (by grind)]
        rfl
      rw [sg] at e4
      have e5 := F_times_ok (Sm.SB hv (by omega)) sr
      unfold F_scale_beside fnP ev_scale_beside
      simp [frz, bindTs, bindT, e1, e2, e3, zero_fr, hz, e4, e5, noL]
/-- one neighbour looked at, the program's text -/
theorem prog_step (B : Bk b n f) (F : Fac n f) (I : Gv n f (some h) s) (ho : o < n) (hD : En n kvs s.1) (hL : s.2.length ≤ 10) {x2 e7 e8 : Option D} :
    (∃ s' kvs', gstp f h s o = some s' ∧ p_scales_of_2_b_2_b_1_bx [some (.pd b), some (.ref 0), x2, some (.ref (ex.length + 1)), some (.pd (.int (h : Int))), some (.pd (.int (o : Int))), none, e7, e8] (.dic kvs :: (ex ++ [.lst (intsD s.2)])) =
      .ok ((.nx, [some (.pd b), some (.ref 0), x2, some (.ref (ex.length + 1)), some (.pd (.int (h : Int))), none, none, e7, e8]), .dic kvs' :: (ex ++ [.lst (intsD s'.2)])) ∧ En n kvs' s'.1) ∨
    (gstp f h s o = none ∧ RtN (p_scales_of_2_b_2_b_1_bx [some (.pd b), some (.ref 0), x2, some (.ref (ex.length + 1)), some (.pd (.int (h : Int))), some (.pd (.int (o : Int))), none, e7, e8] (.dic kvs :: (ex ++ [.lst (intsD s.2)])))) := by
  obtain ⟨hh, hn⟩ := I.cur h (.inr rfl)
  obtain ⟨v, hv⟩ := Option.ne_none_iff_exists'.mp hn
  obtain ⟨vp, vb⟩ := I.val h v hh hv
  have n5 := F.n5
  have e1 := B.fac h o hh ho
  have e2 := B.fac o h ho hh
  have dh := hD.at_ h hh
  have d0 := hD.at_ o ho
  rw [hv] at dh
  have dh' : lk kvs (.inl (h : Int)) = some (fr v) := dh
  have bs := beside_ok B F hh ho (show n - unt s.1 n ≤ 10 by omega) vb
  unfold gstp
  by_cases hz : f h o = 0
  · rw [if_pos hz]
    by_cases hz2 : f o h = 0
    · rw [if_pos hz2]
      refine .inl ⟨s, kvs, rfl, ?_, hD⟩
      simp [p_scales_of_2_b_2_b_1_bx, p_scales_of_2_b_2_b_1_b, p_scales_of_2_b_2_b_1_be, e1, e2, zero_fr, hz, hz2, wipeE]
    · rw [if_neg hz2]
      refine .inr ⟨rfl, ?_⟩
      simp [p_scales_of_2_b_2_b_1_bx, p_scales_of_2_b_2_b_1_b, p_scales_of_2_b_2_b_1_be, p_scales_of_2_b_2_b_1_bet, e1, e2, zero_fr, hz, hz2, RtN]
  · rw [if_neg hz]
    by_cases hp : f h o * f o h ≤ 0
    · rw [if_pos hp]
      rw [if_pos hp] at bs
      refine .inr ⟨rfl, ?_⟩
      simp [p_scales_of_2_b_2_b_1_bx, p_scales_of_2_b_2_b_1_b, p_scales_of_2_b_2_b_1_bt_0, p_scales_of_2_b_2_b_1_bt_1, p_scales_of_2_b_2_b_1_bt_1t, e1, zero_fr, hz, dh', bs, bindT, isNoneB, RtN]
    · rw [if_neg hp, hv]
      rw [if_neg hp] at bs
      dsimp only [Option.getD]
      cases hs : s.1 o with
      | some w =>
        rw [hs] at d0
        have d0' : lk kvs (.inl (o : Int)) = some (fr w) := d0
        dsimp only
        by_cases hw : w = v * (f h o / f o h)
        · rw [if_pos hw]
          refine .inl ⟨s, kvs, rfl, ?_, hD⟩
          simp [p_scales_of_2_b_2_b_1_bx, p_scales_of_2_b_2_b_1_b, p_scales_of_2_b_2_b_1_bt_0, p_scales_of_2_b_2_b_1_bt_1, p_scales_of_2_b_2_b_1_bt_2, e1, zero_fr, hz, dh', bs, bindT, isN_fr, d0', ← hw, wipeE]
        · rw [if_neg hw]
          refine .inr ⟨rfl, ?_⟩
          simp [p_scales_of_2_b_2_b_1_bx, p_scales_of_2_b_2_b_1_b, p_scales_of_2_b_2_b_1_bt_0, p_scales_of_2_b_2_b_1_bt_1, p_scales_of_2_b_2_b_1_bt_1t, e1, zero_fr, hz, dh', bs, bindT, isN_fr, d0', hw, RtN]
      | none =>
        rw [hs] at d0
        have d0' : lk kvs (.inl (o : Int)) = none := d0
        have sm := hD.small n5
        refine .inl ⟨_, pt kvs (.inl (o : Int)) (fr (v * (f h o / f o h))), rfl, ?_, ?_⟩
        · have dp := v_dP0 kvs (ex ++ [.lst (intsD s.2)]) (o : Int) (fr (v * (f h o / f o h))) sm
          have hl : s.2.length < sizeLine := small1000 (by omega)
          simp [p_scales_of_2_b_2_b_1_bx, p_scales_of_2_b_2_b_1_b, p_scales_of_2_b_2_b_1_bt_0, p_scales_of_2_b_2_b_1_bt_1, p_scales_of_2_b_2_b_1_bt_2, p_scales_of_2_b_2_b_1_bt_2t_0, p_scales_of_2_b_2_b_1_bt_2t_1, e1, zero_fr, hz, dh', bs, bindT, isN_fr, d0', dp, hl, wipeE]
        · exact hD.put ho hs _
end
end P55

set_option Elab.async false
set_option linter.all false
set_option maxRecDepth 100000
set_option maxHeartbeats 1000000
/-! The program's scales of a book of single rules. -/
namespace P55
open PySem PySem.Spec PyProof.Rows L2 Zd
theorem gwhl_nil {f : Nat → Nat → Rat} {n k : Nat} {s : Sg × List Nat} (h : s.2 = []) : gwhl f n k s = some s := by
  cases k with
  | zero => rfl
  | succ k => simp [gwhl, h]
section
variable {b : PyData} {n : Nat} {f : Nat → Nat → Rat} {h o : Nat} {s : Sg × List Nat} {kvs : List (Key × PyData)} {ex : Store}
theorem prog_inner (B : Bk b n f) (F : Fac n f) (I : Gv n f (some h) s) (hD : En n kvs s.1) (hL : unt s.1 n + s.2.length ≤ 10) {x2 e7 e8 : Option D} :
    (∃ s' kvs', ginn f h s n = some s' ∧ p_scales_of_2_b_2_b_1 [some (.pd b), some (.ref 0), x2, some (.ref (ex.length + 1)), some (.pd (.int (h : Int))), none, none, e7, e8] (.dic kvs :: (ex ++ [.lst (intsD s.2)])) =
      .ok ((.nx, [some (.pd b), some (.ref 0), x2, some (.ref (ex.length + 1)), some (.pd (.int (h : Int))), none, none, e7, e8]), .dic kvs' :: (ex ++ [.lst (intsD s'.2)])) ∧ En n kvs' s'.1) ∨
    (ginn f h s n = none ∧ RtN (p_scales_of_2_b_2_b_1 [some (.pd b), some (.ref 0), x2, some (.ref (ex.length + 1)), some (.pd (.int (h : Int))), none, none, e7, e8] (.dic kvs :: (ex ++ [.lst (intsD s.2)])))) := by
  have n5 := F.n5
  have key := for_relR (T := .nm 5) (b := p_scales_of_2_b_2_b_1_bx) (ei := iRg1 (eCall fLen (aCons (eVar 0) aNil)))
    (env := [some (.pd b), some (.ref 0), x2, some (.ref (ex.length + 1)), some (.pd (.int (h : Int))), none, none, e7, e8]) (μ := .dic kvs :: (ex ++ [.lst (intsD s.2)])) (μ1 := .dic kvs :: (ex ++ [.lst (intsD s.2)]))
    (fun j env μ => ∃ s' kvs', ginn f h s j = some s' ∧ env = [some (.pd b), some (.ref 0), x2, some (.ref (ex.length + 1)), some (.pd (.int (h : Int))), none, none, e7, e8] ∧ μ = .dic kvs' :: (ex ++ [.lst (intsD s'.2)]) ∧ En n kvs' s'.1)
    (fun j r _ _ => r = .pd .none ∧ ginn f h s (j + 1) = none)
    (rg1_ok (n := n) (by simp [B.len]) (by omega)) ⟨s, kvs, rfl, rfl, rfl, hD⟩ (fun _ _ _ _ => held_nil) (fun j d env μ hd hp => by
      obtain ⟨s1, kv1, g0, rfl, rfl, g1⟩ := hp
      obtain ⟨hj, rfl⟩ := range_item hd
      obtain ⟨i1, i2, i3, i4⟩ := ginn_iv F I j s1 (by omega) g0
      have e : ginn f h s (j + 1) = gstp f h s1 j := by
        show (ginn f h s j).bind _ = _
        rw [g0]
        rfl
      rcases prog_step (ex := ex) (x2 := x2) (e7 := e7) (e8 := e8) B F i1 hj g1 (by omega) with ⟨s2, kv2, q0, q1, q2⟩ | ⟨q0, q1⟩
      · exact ⟨[some (.pd b), some (.ref 0), x2, some (.ref (ex.length + 1)), some (.pd (.int (h : Int))), some (.pd (.int (j : Int))), none, e7, e8], _, _, by simp [bindT], .inl ⟨.inl q1, s2, kv2, e.trans q0, rfl, rfl, q2⟩⟩
      · obtain ⟨env', μ', q2⟩ := q1.ex
        exact ⟨[some (.pd b), some (.ref 0), x2, some (.ref (ex.length + 1)), some (.pd (.int (h : Int))), some (.pd (.int (j : Int))), none, e7, e8], _, _, by simp [bindT], .inr ⟨_, q2, rfl, e.trans q0⟩⟩)
  simp only [List.length_map, List.length_range] at key
  rcases key with ⟨env', μ', h1, s', kvs', g0, rfl, rfl, g1⟩ | ⟨j, r, env', μ', hj, h1, rfl, g0⟩
  · exact .inl ⟨s', kvs', g0, h1, g1⟩
  · refine .inr ⟨ginn_none g0 n (by omega), ?_⟩
    unfold p_scales_of_2_b_2_b_1
    rw [h1]
    trivial
theorem prog_while (B : Bk b n f) (F : Fac n f) (I : Gv n f none s) (hD : En n kvs s.1) (hL : unt s.1 n + s.2.length ≤ 2 * n) {x2 e7 e8 : Option D} :
    (∃ s' kvs', gwhl f n (2 * n) s = some s' ∧ p_scales_of_2_b_2 [some (.pd b), some (.ref 0), x2, some (.ref (ex.length + 1)), none, none, none, e7, e8] (.dic kvs :: (ex ++ [.lst (intsD s.2)])) =
      .ok ((.nx, [some (.pd b), some (.ref 0), x2, some (.ref (ex.length + 1)), none, none, none, e7, e8]), .dic kvs' :: (ex ++ [.lst []])) ∧ En n kvs' s'.1) ∨
    (gwhl f n (2 * n) s = none ∧ RtN (p_scales_of_2_b_2 [some (.pd b), some (.ref 0), x2, some (.ref (ex.length + 1)), none, none, none, e7, e8] (.dic kvs :: (ex ++ [.lst (intsD s.2)])))) := by
  have n5 := F.n5
  have key := while_relR (t := p_scales_of_2_b_2_c) (b := p_scales_of_2_b_2_b)
    (fun k env μ => ∃ s' kvs', env = [some (.pd b), some (.ref 0), x2, some (.ref (ex.length + 1)), none, none, none, e7, e8] ∧ μ = .dic kvs' :: (ex ++ [.lst (intsD s'.2)]) ∧ Gv n f none s' ∧ En n kvs' s'.1 ∧ unt s'.1 n + s'.2.length ≤ k ∧ k ≤ 2 * n ∧ gwhl f n k s' = gwhl f n (2 * n) s)
    (fun env μ => env = [some (.pd b), some (.ref 0), x2, some (.ref (ex.length + 1)), none, none, none, e7, e8] ∧ ∃ s' kvs', μ = .dic kvs' :: (ex ++ [.lst []]) ∧ gwhl f n (2 * n) s = some s' ∧ En n kvs' s'.1)
    (fun r _ _ => r = .pd .none ∧ gwhl f n (2 * n) s = none)
    (fun k env μ hp => by
      obtain ⟨s', kv1, rfl, rfl, I1, g1, g2, g3, g4⟩ := hp
      cases hl : s'.2.getLast? with
      | none =>
        have e : s'.2 = [] := List.getLast?_eq_none_iff.mp hl
        refine .inl ⟨_, ?_, rfl, s', kv1, rfl, ?_, g1⟩
        · simp [p_scales_of_2_b_2_c, e, truD, intsD]
        · rw [← g4, gwhl_nil e]
      | some h =>
        have hne : s'.2 ≠ [] := fun z => by rw [z] at hl; cases hl
        have hp : 0 < s'.2.length := List.length_pos_iff.mpr hne
        have hd : s'.2.dropLast.length = s'.2.length - 1 := List.length_dropLast ..
        obtain ⟨k', rfl⟩ : ∃ k', k = k' + 1 := ⟨k - 1, by omega⟩
        have I2 := gpop I1 hl
        have hge : (intsD s'.2).getLast? = some (.int (h : Int)) := by simp [intsD, List.getLast?_map, hl]
        have hdl : (intsD s'.2).dropLast = intsD s'.2.dropLast := by simp [intsD, List.map_dropLast]
        have hnil : intsD s'.2 ≠ [] := fun z => hne (by simpa [intsD] using z)
        have cnd : p_scales_of_2_b_2_c [some (.pd b), some (.ref 0), x2, some (.ref (ex.length + 1)), none, none, none, e7, e8] (.dic kv1 :: (ex ++ [.lst (intsD s'.2)])) = .ok (true, .dic kv1 :: (ex ++ [.lst (intsD s'.2)])) := by
          simp [p_scales_of_2_b_2_c, truD, hnil]
        have s0 : p_scales_of_2_b_2_b_0 [some (.pd b), some (.ref 0), x2, some (.ref (ex.length + 1)), none, none, none, e7, e8] (.dic kv1 :: (ex ++ [.lst (intsD s'.2)])) =
            .ok ((.nx, [some (.pd b), some (.ref 0), x2, some (.ref (ex.length + 1)), some (.pd (.int (h : Int))), none, none, e7, e8]), .dic kv1 :: (ex ++ [.lst (intsD s'.2.dropLast)])) := by
          simp [p_scales_of_2_b_2_b_0, bindT, hge, hdl]
        have ew : gwhl f n (k' + 1) s' = (ginn f h (s'.1, s'.2.dropLast) n).bind (gwhl f n k') := by
          conv => lhs; unfold gwhl
          rw [hl]
        rcases prog_inner (ex := ex) (s := (s'.1, s'.2.dropLast)) (x2 := x2) (e7 := e7) (e8 := e8) B F I2 g1 (by simp only [hd]; omega) with ⟨s2, kv2, q0, q1, q2⟩ | ⟨q0, q1⟩
        · obtain ⟨i1, i2, i3, i4⟩ := ginn_iv F I2 n s2 (Nat.le_refl _) q0
          refine .inr ⟨_, _, .dic kv2 :: (ex ++ [.lst (intsD s2.2)]), cnd, .inl ⟨k', .inl ?_, by omega, s2, kv2, rfl, rfl, gdone i1 i2, q2, by simp only [hd] at i4; omega, by omega, ?_⟩⟩
          · unfold p_scales_of_2_b_2_b
            rw [v_forget, seq_nx s0, q1]
            rfl
          · rw [← g4, ew, q0]
            rfl
        · obtain ⟨env', μ', q2⟩ := q1.ex
          refine .inr ⟨_, wipeE env' [4, 5, 6], μ', cnd, .inr ⟨.pd .none, ?_, rfl, ?_⟩⟩
          · unfold p_scales_of_2_b_2_b
            rw [v_forget, seq_nx s0, q2]
            rfl
          · rw [← g4, ew, q0]
            rfl)
    (2 * n) _ _ ⟨s, kvs, rfl, rfl, I, hD, hL, Nat.le_refl _, rfl⟩
  rcases key with ⟨env', μ', h1, rfl, s', kvs', rfl, g0, g1⟩ | ⟨r, env', μ', h1, rfl, g0⟩
  · exact .inl ⟨s', kvs', g0, h1, g1⟩
  · refine .inr ⟨g0, ?_⟩
    unfold p_scales_of_2_b_2
    rw [h1]
    trivial
theorem prog_first (B : Bk b n f) (F : Fac n f) {m : Nat} (hm : m < n) {σ : Sg} (hσ : gscl f n m = some σ) (hD : En n kvs σ) {e7 e8 : Option D} :
    (∃ σ' kvs', gscl f n (m + 1) = some σ' ∧ p_scales_of_2_b [some (.pd b), some (.ref 0), some (.pd (.int (m : Int))), none, none, none, none, e7, e8] (.dic kvs :: ex) =
      .ok ((.nx, [some (.pd b), some (.ref 0), none, none, none, none, none, e7, e8]), .dic kvs' :: (ex ++ [.lst []])) ∧ En n kvs' σ') ∨
    (gscl f n (m + 1) = none ∧ RtN (p_scales_of_2_b [some (.pd b), some (.ref 0), some (.pd (.int (m : Int))), none, none, none, none, e7, e8] (.dic kvs :: ex))) := by
  have T := (gscl_told F m σ (by omega) hσ).1
  obtain ⟨j1, j2, j3, j4⟩ := gini T hm
  have n5 := F.n5
  have sm := hD.small n5
  have dm := hD.at_ m hm
  have sl1 : (1 : Nat) ≤ sizeLine := sizeLine_ge (by decide)
  have step : ∃ kv1, p_scales_of_2_b_0 [some (.pd b), some (.ref 0), some (.pd (.int (m : Int))), none, none, none, none, e7, e8] (.dic kvs :: ex) =
        .ok ((.nx, [some (.pd b), some (.ref 0), some (.pd (.int (m : Int))), some (.ref (ex.length + 1)), none, none, none, e7, e8]), .dic kvs :: (ex ++ [.lst (intsD (ini σ m).2)])) ∧
      p_scales_of_2_b_1 [some (.pd b), some (.ref 0), some (.pd (.int (m : Int))), some (.ref (ex.length + 1)), none, none, none, e7, e8] (.dic kvs :: (ex ++ [.lst (intsD (ini σ m).2)])) =
        .ok ((.nx, [some (.pd b), some (.ref 0), some (.pd (.int (m : Int))), some (.ref (ex.length + 1)), none, none, none, e7, e8]), .dic kv1 :: (ex ++ [.lst (intsD (ini σ m).2)])) ∧ En n kv1 (ini σ m).1 := by
    unfold ini
    cases hs : σ m with
    | some w =>
      rw [hs] at dm
      have dm' : lk kvs (.inl (m : Int)) = some (fr w) := dm
      have dp := v_dP0 kvs (ex ++ [.lst (intsD [])]) (m : Int) ONEd sm
      refine ⟨kvs, ?_, ?_, hD⟩
      · simp [p_scales_of_2_b_0, dm', bindT, intsD, sizeLine_ge]
      · simp [p_scales_of_2_b_1, dm', dp]
    | none =>
      rw [hs] at dm
      have dm' : lk kvs (.inl (m : Int)) = none := dm
      have dp := v_dP0 kvs (ex ++ [.lst (intsD [m])]) (m : Int) ONEd sm
      refine ⟨pt kvs (.inl (m : Int)) (fr 1), ?_, ?_, hD.put hm hs 1⟩
      · simp [p_scales_of_2_b_0, dm', bindT, intsD, sl1]
      · simp [p_scales_of_2_b_1, dm', dp]
        rfl
  obtain ⟨kv1, s0, s1, hD1⟩ := step
  have eg : gscl f n (m + 1) = (gwhl f n (2 * n) (ini σ m)).map (·.1) := by
    conv => lhs; unfold gscl
    rw [hσ]
    rfl
  rcases prog_while (ex := ex) (x2 := some (.pd (.int (m : Int)))) (e7 := e7) (e8 := e8) B F j1 hD1 j4 with ⟨s', kv2, q0, q1, q2⟩ | ⟨q0, q1⟩
  · refine .inl ⟨s'.1, kv2, by rw [eg, q0]; rfl, ?_, q2⟩
    unfold p_scales_of_2_b
    rw [v_forget, seq_nx s0, seq_nx s1, q1]
    rfl
  · refine .inr ⟨by rw [eg, q0]; rfl, ?_⟩
    obtain ⟨env', μ', q2⟩ := q1.ex
    unfold p_scales_of_2_b
    rw [v_forget, seq_nx s0, seq_nx s1, q2]
    trivial
/-- the scales, or None -/
def scD (n : Nat) : Option Sg → PyData
  | some σ => .tuple ((List.range n).map fun i => fr ((σ i).getD 1))
  | none => .none
theorem scales_ok (B : Bk b n f) (F : Fac n f) (look : ∀ μ, p_scales_of_0 [some (.pd b), none, none, none, none, none, none, none, none] μ = .ok ((.nx, [some (.pd b), none, none, none, none, none, none, none, none]), μ)) : F_scales_of [b] = .ok (scD n (gscl f n n)) := by
  have n5 := F.n5
  have key := for_relR (T := .nm 2) (b := p_scales_of_2_b) (ei := iRg1 (eCall fLen (aCons (eVar 0) aNil)))
    (env := [some (.pd b), some (.ref 0), none, none, none, none, none, none, none]) (μ := [.dic []]) (μ1 := [.dic []])
    (fun m env μ => ∃ σ kvs ex, gscl f n m = some σ ∧ env = [some (.pd b), some (.ref 0), none, none, none, none, none, none, none] ∧ μ = .dic kvs :: ex ∧ En n kvs σ)
    (fun m r _ _ => r = .pd .none ∧ gscl f n (m + 1) = none)
    (rg1_ok (n := n) (by simp [B.len]) (by omega)) ⟨_, [], [], rfl, rfl, rfl, fun i _ => rfl, by have := unt_le (fun _ => none) n; simpa using this⟩ (fun _ _ _ _ => held_nil) (fun j d env μ hd hp => by
      obtain ⟨σ, kv1, ex1, g0, rfl, rfl, g1⟩ := hp
      obtain ⟨hj, rfl⟩ := range_item hd
      rcases prog_first (ex := ex1) (e7 := none) (e8 := none) B F hj g0 g1 with ⟨σ', kv2, q0, q1, q2⟩ | ⟨q0, q1⟩
      · exact ⟨[some (.pd b), some (.ref 0), some (.pd (.int (j : Int))), none, none, none, none, none, none], _, _, by simp [bindT], .inl ⟨.inl q1, σ', kv2, _, q0, rfl, rfl, q2⟩⟩
      · obtain ⟨env', μ', q2⟩ := q1.ex
        exact ⟨[some (.pd b), some (.ref 0), some (.pd (.int (j : Int))), none, none, none, none, none, none], _, _, by simp [bindT], .inr ⟨_, q2, rfl, q0⟩⟩)
  have s0 := look []
  have s1 : p_scales_of_1 [some (.pd b), none, none, none, none, none, none, none, none] [] = .ok ((.nx, [some (.pd b), some (.ref 0), none, none, none, none, none, none, none]), [.dic []]) := by
    simp [p_scales_of_1, bindT]
  simp only [List.length_map, List.length_range] at key
  rcases key with ⟨env', μ', h1, σ, kvs', ex', g0, rfl, rfl, h2⟩ | ⟨j, r, env', μ', hj, h1, rfl, g0⟩
  · rw [g0]
    obtain ⟨S, at_⟩ := gscl_sca F g0
    have c3 := comp_mapA (g := []) (T := .nm 7) (μ := .dic kvs' :: ex') (elt := eDGet (eVar 1) (eVar 7)) (env := wipeE [some (.pd b), some (.ref 0), none, none, none, none, none, none, none] [7]) held_nil (fun i : Nat => D.pd (.int (i : Int))) (fun i => D.pd (fr ((σ i).getD 1))) (List.range n) (fun i hi => by
      simp at hi
      have dm := h2.at_ i hi
      rw [at_ i hi] at dm
      have dm' : lk kvs' (.inl (i : Int)) = some (fr ((σ i).getD 1)) := dm
      exact ⟨[some (.pd b), some (.ref 0), none, none, none, none, none, some (.pd (.int (i : Int))), none], by simp [bindT, wipeE], by simp [dm']⟩)
    have i3 := rg1_ok (a := eCall fLen (aCons (eVar 0) aNil)) (env := [some (.pd b), some (.ref 0), none, none, none, none, none, none, none]) (μ := .dic kvs' :: ex') (μ1 := .dic kvs' :: ex') (n := n) (by simp [B.len]) (by omega)
    have l3 := lcD_eq (vs := [7]) i3 (by simp; exact sizeLine_ge (by omega)) c3
    have s3 : p_scales_of_3 [some (.pd b), some (.ref 0), none, none, none, none, none, none, none] (.dic kvs' :: ex') = .ok ((.rt (.pd (.tuple ((List.range n).map fun i => fr ((σ i).getD 1)))), [some (.pd b), some (.ref 0), none, none, none, none, none, none, none]), .dic kvs' :: ex') := by
      unfold p_scales_of_3
      simp [l3]
    exact fnP_run ((congrFun (congrFun parts_scales_of _) _).trans ((seq_nx s0).trans ((seq_nx s1).trans ((seq_nx h1).trans s3)))) rfl rfl
  · rw [gscl_none g0 n (by omega)]
    exact fnP_run ((congrFun (congrFun parts_scales_of _) _).trans ((seq_nx s0).trans ((seq_nx s1).trans (seq_rt h1)))) rfl rfl
end
end P55

set_option Elab.async false
set_option linter.all false
set_option maxRecDepth 100000
set_option maxHeartbeats 1000000
/-! The law goes along the links as the plain computation does. -/
namespace P55
open PySem PySem.Spec PyProof.Rows L2 Zd
theorem ints_lay : ∀ L : List Nat, PyData.canLayAll0 (intsD L) = true
  | [] => rfl
  | i :: r => by
    have := ints_lay r
    simp only [intsD] at this ⊢
    simp [PyData.canLayAll0, PyData.canLay0, this]
theorem ints_depth : ∀ L : List Nat, PyData.depthAll (intsD L) ≤ 0
  | [] => Nat.le_refl _
  | i :: r => by
    have := ints_depth r
    simp only [intsD] at this ⊢
    simp [PyData.depthAll, PyData.depth]
    simpa using this
theorem ne_nil (L : List Nat) : fNe (.list (intsD L)) (.list []) = some (.bool (!L.isEmpty)) := by
  have e : fNeS (.list (intsD L)) (.list []) = none := rfl
  have h1 : SeqAt.shaped (.list (intsD L)) = true := by
    have := ints_lay L
    have := ints_depth L
    simp [SeqAt.shaped, PyData.canLay0, PyData.depth, *]
    omega
  have h2 : SeqAt.shaped (.list []) = true := rfl
  have h3 : PyData.eqv (.list (intsD L)) (.list []) = L.isEmpty := by
    cases L <;> rfl
  simp [fNe, e, fNeD, h1, h2, h3]
theorem rat_pos_num {q : Rat} : 0 < q ↔ 0 < q.num := by
  rw [Rat.lt_iff]
  simp
theorem rat_neg_num {q : Rat} : q < 0 ↔ q.num < 0 := by
  rw [Rat.lt_iff]
  simp
theorem num_mul_le (a c : Rat) : a.num * c.num ≤ 0 ↔ a * c ≤ 0 := by
  rcases Int.lt_trichotomy a.num 0 with g | g | g
  · have ga : 0 < -a := by have := rat_neg_num.mpr g; grind
    rcases Int.lt_trichotomy c.num 0 with k | k | k
    · have kc : 0 < -c := by have := rat_neg_num.mpr k; grind
      have m1 := Rat.mul_pos ga kc
      have m2 := Int.mul_pos_of_neg_of_neg g k
      constructor
      · intro z; omega
      · intro z
        have : 0 < a * c := by grind
        exact absurd z (Rat.not_le.mpr this)
    · have kc : c = 0 := Rat.num_eq_zero.mp k
      subst kc
      simp
    · have kc := rat_pos_num.mpr k
      have m1 := Rat.mul_pos ga kc
      have m2 := Int.mul_neg_of_neg_of_pos g k
      constructor
      · intro z; grind
      · intro z; omega
  · have ga : a = 0 := Rat.num_eq_zero.mp g
    subst ga
    simp
  · have ga := rat_pos_num.mpr g
    rcases Int.lt_trichotomy c.num 0 with k | k | k
    · have kc : 0 < -c := by have := rat_neg_num.mpr k; grind
      have m1 := Rat.mul_pos ga kc
      have m2 := Int.mul_neg_of_pos_of_neg g k
      constructor
      · intro z; grind
      · intro z; omega
    · have kc : c = 0 := Rat.num_eq_zero.mp k
      subst kc
      simp
    · have kc := rat_pos_num.mpr k
      have m1 := Rat.mul_pos ga kc
      have m2 := Int.mul_pos g k
      constructor
      · intro z; omega
      · intro z; exact absurd z (Rat.not_le.mpr m1)
def rowD (n : Nat) (f : Nat → Nat → Rat) (i : Nat) : PyData := .tuple ((List.range n).map fun j => fr (f i j))
def rowsD (n : Nat) (f : Nat → Nat → Rat) : PyData := .list ((List.range n).map (rowD n f))
section
variable {b : PyData} {n : Nat} {f : Nat → Nat → Rat} {h o : Nat} {s : Sg × List Nat} {kvs : List (Key × PyData)} {ex : Store}
@[simp] theorem row_at {i j : Nat} (hj : j < n) : fIx (rowD n f i) (.int (j : Int)) = some (fr (f i j)) := at_range _ hj
@[simp] theorem rows_at {i : Nat} (hi : i < n) : fIx (rowsD n f) (.int (i : Int)) = some (rowD n f i) := at_range _ hi
theorem law_step (F : Fac n f) (I : Gv n f (some h) s) (ho : o < n) (hD : En n kvs s.1) (hL : s.2.length ≤ 10) {x0 x3 e8 : Option D} :
    (∃ s' kvs' fl, (fl = .nx ∨ fl = .ct) ∧ gstp f h s o = some s' ∧ p_law_scales_2_b_2_b_1_b [x0, some (.pd (rowsD n f)), some (.ref 0), x3, some (.ref (ex.length + 1)), some (.pd (.int (h : Int))), some (.pd (.int (o : Int))), none, e8] (.dic kvs :: (ex ++ [.lst (intsD s.2)])) =
      .ok ((fl, [x0, some (.pd (rowsD n f)), some (.ref 0), x3, some (.ref (ex.length + 1)), some (.pd (.int (h : Int))), none, none, e8]), .dic kvs' :: (ex ++ [.lst (intsD s'.2)])) ∧ En n kvs' s'.1) ∨
    (gstp f h s o = none ∧ RtN (p_law_scales_2_b_2_b_1_b [x0, some (.pd (rowsD n f)), some (.ref 0), x3, some (.ref (ex.length + 1)), some (.pd (.int (h : Int))), some (.pd (.int (o : Int))), none, e8] (.dic kvs :: (ex ++ [.lst (intsD s.2)])))) := by
  obtain ⟨hh, hn⟩ := I.cur h (.inr rfl)
  obtain ⟨v, hv⟩ := Option.ne_none_iff_exists'.mp hn
  obtain ⟨vp, vb⟩ := I.val h v hh hv
  have n5 := F.n5
  have dh := hD.at_ h hh
  have d0 := hD.at_ o ho
  rw [hv] at dh
  have dh' : lk kvs (.inl (h : Int)) = some (fr v) := dh
  have cmm : CMulW (f h o).num (f o h).num := cm (F.sm hh ho).num (F.sm ho hh).num
  have nm := num_mul_le (f h o) (f o h)
  unfold gstp
  by_cases hz : f h o = 0
  · rw [if_pos hz]
    by_cases hz2 : f o h = 0
    · rw [if_pos hz2]
      refine .inl ⟨s, kvs, .ct, .inr rfl, rfl, ?_, hD⟩
      simp [p_law_scales_2_b_2_b_1_b, p_law_scales_2_b_2_b_1_b_0, hh, ho, hz, hz2, wipeE]
    · rw [if_neg hz2]
      refine .inr ⟨rfl, ?_⟩
      rw [hz] at cmm
      have hn2 := num_ne hz2
      simp [p_law_scales_2_b_2_b_1_b, p_law_scales_2_b_2_b_1_b_0, p_law_scales_2_b_2_b_1_b_1, p_law_scales_2_b_2_b_1_b_1t, hh, ho, hz, hz2, hn2, cmm, RtN]
      simp at cmm
      simp [cmm]
  · rw [if_neg hz]
    have n1 := num_ne hz
    by_cases hp : f h o * f o h ≤ 0
    · rw [if_pos hp]
      have npp := nm.mpr hp
      refine .inr ⟨rfl, ?_⟩
      simp [p_law_scales_2_b_2_b_1_b, p_law_scales_2_b_2_b_1_b_0, p_law_scales_2_b_2_b_1_b_1, p_law_scales_2_b_2_b_1_b_1t, hh, ho, n1, cmm, npp, RtN]
    · rw [if_neg hp, hv]
      have npp : ¬ ((f h o).num * (f o h).num ≤ 0) := fun z => hp (nm.mp z)
      obtain ⟨h1, h2, h3⟩ := rat_pos_mul hp
      have b1 := L_by_ok (F.sm hh ho) (Sm.SB vb (by omega))
      have sb : Sm (f h o * v) := ((F.fb h o hh ho).mul vb).sm (by
        have : SB (n - unt s.1 n) ≤ SB 5 := SB.mono (by omega)
        exact Nat.lt_of_le_of_lt (Nat.mul_le_mul_left _ this) (Nat.lt_of_le_of_lt (Nat.mul_le_mul_right _ (show 1200 ≤ 2 ^ 20 by decide)) (by
          show 2 ^ 20 * 2 ^ (23 * 5) < 2 ^ 4000
          rw [← Nat.pow_add]
          exact Nat.pow_lt_pow_right (by decide) (by decide)))) (by
        have : SB (n - unt s.1 n) ≤ SB 5 := SB.mono (by omega)
        exact Nat.lt_of_le_of_lt (Nat.mul_le_mul_left _ this) (Nat.lt_of_le_of_lt (Nat.mul_le_mul_right _ (show 6000 ≤ 2 ^ 20 by decide)) (by
          show 2 ^ 20 * 2 ^ (23 * 5) < 2 ^ 4000
          rw [← Nat.pow_add]
          exact Nat.pow_lt_pow_right (by decide) (by decide))))
      have b2 := L_over_ok sb (F.sm ho hh) h2
      have ev : f h o * v / f o h = v * (f h o / f o h) := by grind
      rw [ev] at b2
      dsimp only [Option.getD]
      cases hs : s.1 o with
      | some w =>
        rw [hs] at d0
        have d0' : lk kvs (.inl (o : Int)) = some (fr w) := d0
        dsimp only
        by_cases hw : w = v * (f h o / f o h)
        · rw [if_pos hw]
          refine .inl ⟨s, kvs, .nx, .inl rfl, rfl, ?_, hD⟩
          simp [p_law_scales_2_b_2_b_1_b, p_law_scales_2_b_2_b_1_b_0, p_law_scales_2_b_2_b_1_b_1, p_law_scales_2_b_2_b_1_b_2, p_law_scales_2_b_2_b_1_b_3, p_law_scales_2_b_2_b_1_b_3e, hh, ho, n1, cmm, npp, dh', b1, b2, bindT, d0', ← hw, wipeE]
        · rw [if_neg hw]
          refine .inr ⟨rfl, ?_⟩
          simp [p_law_scales_2_b_2_b_1_b, p_law_scales_2_b_2_b_1_b_0, p_law_scales_2_b_2_b_1_b_1, p_law_scales_2_b_2_b_1_b_2, p_law_scales_2_b_2_b_1_b_3, p_law_scales_2_b_2_b_1_b_3e, p_law_scales_2_b_2_b_1_b_3et, hh, ho, n1, cmm, npp, dh', b1, b2, bindT, d0', hw, RtN]
      | none =>
        rw [hs] at d0
        have d0' : lk kvs (.inl (o : Int)) = none := d0
        have sm := hD.small n5
        refine .inl ⟨_, pt kvs (.inl (o : Int)) (fr (v * (f h o / f o h))), .nx, .inl rfl, rfl, ?_, ?_⟩
        · have dp := v_dP0 kvs (ex ++ [.lst (intsD s.2)]) (o : Int) (fr (v * (f h o / f o h))) sm
          have hl : s.2.length < sizeLine := small1000 (by omega)
          simp [p_law_scales_2_b_2_b_1_b, p_law_scales_2_b_2_b_1_b_0, p_law_scales_2_b_2_b_1_b_1, p_law_scales_2_b_2_b_1_b_2, p_law_scales_2_b_2_b_1_b_3, p_law_scales_2_b_2_b_1_b_3t_0, p_law_scales_2_b_2_b_1_b_3t_1, hh, ho, n1, cmm, npp, dh', b1, b2, bindT, d0', dp, hl, wipeE]
        · exact hD.put ho hs _
end
end P55

set_option Elab.async false
set_option linter.all false
set_option maxRecDepth 100000
set_option maxHeartbeats 1000000
/-! The law's scales of a book of single rules. -/
namespace P55
open PySem PySem.Spec PyProof.Rows L2 Zd
section
variable {b : PyData} {n : Nat} {f : Nat → Nat → Rat} {h o : Nat} {s : Sg × List Nat} {kvs : List (Key × PyData)} {ex : Store}
theorem law_inner (hb : fLen [b] = some (.int (n : Int))) (F : Fac n f) (I : Gv n f (some h) s) (hD : En n kvs s.1) (hL : unt s.1 n + s.2.length ≤ 10) {x3 e8 : Option D} :
    (∃ s' kvs', ginn f h s n = some s' ∧ p_law_scales_2_b_2_b_1 [some (.pd b), some (.pd (rowsD n f)), some (.ref 0), x3, some (.ref (ex.length + 1)), some (.pd (.int (h : Int))), none, none, e8] (.dic kvs :: (ex ++ [.lst (intsD s.2)])) =
      .ok ((.nx, [some (.pd b), some (.pd (rowsD n f)), some (.ref 0), x3, some (.ref (ex.length + 1)), some (.pd (.int (h : Int))), none, none, e8]), .dic kvs' :: (ex ++ [.lst (intsD s'.2)])) ∧ En n kvs' s'.1) ∨
    (ginn f h s n = none ∧ RtN (p_law_scales_2_b_2_b_1 [some (.pd b), some (.pd (rowsD n f)), some (.ref 0), x3, some (.ref (ex.length + 1)), some (.pd (.int (h : Int))), none, none, e8] (.dic kvs :: (ex ++ [.lst (intsD s.2)])))) := by
  have n5 := F.n5
  have key := for_relR (T := .nm 6) (b := p_law_scales_2_b_2_b_1_b) (ei := iRg1 (eCall fLen (aCons (eVar 0) aNil)))
    (env := [some (.pd b), some (.pd (rowsD n f)), some (.ref 0), x3, some (.ref (ex.length + 1)), some (.pd (.int (h : Int))), none, none, e8]) (μ := .dic kvs :: (ex ++ [.lst (intsD s.2)])) (μ1 := .dic kvs :: (ex ++ [.lst (intsD s.2)]))
    (fun j env μ => ∃ s' kvs', ginn f h s j = some s' ∧ env = [some (.pd b), some (.pd (rowsD n f)), some (.ref 0), x3, some (.ref (ex.length + 1)), some (.pd (.int (h : Int))), none, none, e8] ∧ μ = .dic kvs' :: (ex ++ [.lst (intsD s'.2)]) ∧ En n kvs' s'.1)
    (fun j r _ _ => r = .pd .none ∧ ginn f h s (j + 1) = none)
    (rg1_ok (n := n) (by simp [hb]) (by omega)) ⟨s, kvs, rfl, rfl, rfl, hD⟩ (fun _ _ _ _ => held_nil) (fun j d env μ hd hp => by
      obtain ⟨s1, kv1, g0, rfl, rfl, g1⟩ := hp
      obtain ⟨hj, rfl⟩ := range_item hd
      obtain ⟨i1, i2, i3, i4⟩ := ginn_iv F I j s1 (by omega) g0
      have e : ginn f h s (j + 1) = gstp f h s1 j := by
        show (ginn f h s j).bind _ = _
        rw [g0]
        rfl
      rcases law_step (x0 := some (.pd b)) (ex := ex) (x3 := x3) (e8 := e8) F i1 hj g1 (by omega) with ⟨s2, kv2, fl, hfl, q0, q1, q2⟩ | ⟨q0, q1⟩
      · refine ⟨[some (.pd b), some (.pd (rowsD n f)), some (.ref 0), x3, some (.ref (ex.length + 1)), some (.pd (.int (h : Int))), some (.pd (.int (j : Int))), none, e8], _, _, by simp [bindT], .inl ⟨?_, s2, kv2, e.trans q0, rfl, rfl, q2⟩⟩
        rcases hfl with rfl | rfl
        · exact .inl q1
        · exact .inr q1
      · obtain ⟨env', μ', q2⟩ := q1.ex
        exact ⟨[some (.pd b), some (.pd (rowsD n f)), some (.ref 0), x3, some (.ref (ex.length + 1)), some (.pd (.int (h : Int))), some (.pd (.int (j : Int))), none, e8], _, _, by simp [bindT], .inr ⟨_, q2, rfl, e.trans q0⟩⟩)
  simp only [List.length_map, List.length_range] at key
  rcases key with ⟨env', μ', h1, s', kvs', g0, rfl, rfl, g1⟩ | ⟨j, r, env', μ', hj, h1, rfl, g0⟩
  · exact .inl ⟨s', kvs', g0, h1, g1⟩
  · refine .inr ⟨ginn_none g0 n (by omega), ?_⟩
    unfold p_law_scales_2_b_2_b_1
    rw [h1]
    trivial
theorem law_while (hb : fLen [b] = some (.int (n : Int))) (F : Fac n f) (I : Gv n f none s) (hD : En n kvs s.1) (hL : unt s.1 n + s.2.length ≤ 2 * n) {x3 e8 : Option D} :
    (∃ s' kvs', gwhl f n (2 * n) s = some s' ∧ p_law_scales_2_b_2 [some (.pd b), some (.pd (rowsD n f)), some (.ref 0), x3, some (.ref (ex.length + 1)), none, none, none, e8] (.dic kvs :: (ex ++ [.lst (intsD s.2)])) =
      .ok ((.nx, [some (.pd b), some (.pd (rowsD n f)), some (.ref 0), x3, some (.ref (ex.length + 1)), none, none, none, e8]), .dic kvs' :: (ex ++ [.lst []])) ∧ En n kvs' s'.1) ∨
    (gwhl f n (2 * n) s = none ∧ RtN (p_law_scales_2_b_2 [some (.pd b), some (.pd (rowsD n f)), some (.ref 0), x3, some (.ref (ex.length + 1)), none, none, none, e8] (.dic kvs :: (ex ++ [.lst (intsD s.2)])))) := by
  have n5 := F.n5
  have key := while_relR (t := p_law_scales_2_b_2_c) (b := p_law_scales_2_b_2_b)
    (fun k env μ => ∃ s' kvs', env = [some (.pd b), some (.pd (rowsD n f)), some (.ref 0), x3, some (.ref (ex.length + 1)), none, none, none, e8] ∧ μ = .dic kvs' :: (ex ++ [.lst (intsD s'.2)]) ∧ Gv n f none s' ∧ En n kvs' s'.1 ∧ unt s'.1 n + s'.2.length ≤ k ∧ k ≤ 2 * n ∧ gwhl f n k s' = gwhl f n (2 * n) s)
    (fun env μ => env = [some (.pd b), some (.pd (rowsD n f)), some (.ref 0), x3, some (.ref (ex.length + 1)), none, none, none, e8] ∧ ∃ s' kvs', μ = .dic kvs' :: (ex ++ [.lst []]) ∧ gwhl f n (2 * n) s = some s' ∧ En n kvs' s'.1)
    (fun r _ _ => r = .pd .none ∧ gwhl f n (2 * n) s = none)
    (fun k env μ hp => by
      obtain ⟨s', kv1, rfl, rfl, I1, g1, g2, g3, g4⟩ := hp
      have cnd : p_law_scales_2_b_2_c [some (.pd b), some (.pd (rowsD n f)), some (.ref 0), x3, some (.ref (ex.length + 1)), none, none, none, e8] (.dic kv1 :: (ex ++ [.lst (intsD s'.2)])) = .ok (!s'.2.isEmpty, .dic kv1 :: (ex ++ [.lst (intsD s'.2)])) := by
        simp [p_law_scales_2_b_2_c, ne_nil]
      cases hl : s'.2.getLast? with
      | none =>
        have e : s'.2 = [] := List.getLast?_eq_none_iff.mp hl
        refine .inl ⟨_, ?_, rfl, s', kv1, rfl, ?_, g1⟩
        · rw [cnd, e]
          rfl
        · rw [← g4, gwhl_nil e]
      | some h =>
        have hne : s'.2 ≠ [] := fun z => by rw [z] at hl; cases hl
        have hp : 0 < s'.2.length := List.length_pos_iff.mpr hne
        have hd : s'.2.dropLast.length = s'.2.length - 1 := List.length_dropLast ..
        obtain ⟨k', rfl⟩ : ∃ k', k = k' + 1 := ⟨k - 1, by omega⟩
        have I2 := gpop I1 hl
        have hge : (intsD s'.2).getLast? = some (.int (h : Int)) := by simp [intsD, List.getLast?_map, hl]
        have hdl : (intsD s'.2).dropLast = intsD s'.2.dropLast := by simp [intsD, List.map_dropLast]
        have hemp : (!s'.2.isEmpty) = true := by simp [hne]
        rw [hemp] at cnd
        have s0 : p_law_scales_2_b_2_b_0 [some (.pd b), some (.pd (rowsD n f)), some (.ref 0), x3, some (.ref (ex.length + 1)), none, none, none, e8] (.dic kv1 :: (ex ++ [.lst (intsD s'.2)])) =
            .ok ((.nx, [some (.pd b), some (.pd (rowsD n f)), some (.ref 0), x3, some (.ref (ex.length + 1)), some (.pd (.int (h : Int))), none, none, e8]), .dic kv1 :: (ex ++ [.lst (intsD s'.2.dropLast)])) := by
          simp [p_law_scales_2_b_2_b_0, bindT, hge, hdl]
        have ew : gwhl f n (k' + 1) s' = (ginn f h (s'.1, s'.2.dropLast) n).bind (gwhl f n k') := by
          conv => lhs; unfold gwhl
          rw [hl]
        rcases law_inner (ex := ex) (s := (s'.1, s'.2.dropLast)) (x3 := x3) (e8 := e8) hb F I2 g1 (by simp only [hd]; omega) with ⟨s2, kv2, q0, q1, q2⟩ | ⟨q0, q1⟩
        · obtain ⟨i1, i2, i3, i4⟩ := ginn_iv F I2 n s2 (Nat.le_refl _) q0
          refine .inr ⟨_, _, .dic kv2 :: (ex ++ [.lst (intsD s2.2)]), cnd, .inl ⟨k', .inl ?_, by omega, s2, kv2, rfl, rfl, gdone i1 i2, q2, by simp only [hd] at i4; omega, by omega, ?_⟩⟩
          · unfold p_law_scales_2_b_2_b
            rw [v_forget, seq_nx s0, q1]
            rfl
          · rw [← g4, ew, q0]
            rfl
        · obtain ⟨env', μ', q2⟩ := q1.ex
          refine .inr ⟨_, wipeE env' [5, 6, 7], μ', cnd, .inr ⟨.pd .none, ?_, rfl, ?_⟩⟩
          · unfold p_law_scales_2_b_2_b
            rw [v_forget, seq_nx s0, q2]
            rfl
          · rw [← g4, ew, q0]
            rfl)
    (2 * n) _ _ ⟨s, kvs, rfl, rfl, I, hD, hL, Nat.le_refl _, rfl⟩
  rcases key with ⟨env', μ', h1, rfl, s', kvs', rfl, g0, g1⟩ | ⟨r, env', μ', h1, rfl, g0⟩
  · exact .inl ⟨s', kvs', g0, h1, g1⟩
  · refine .inr ⟨g0, ?_⟩
    unfold p_law_scales_2_b_2
    rw [h1]
    trivial
theorem law_first (hb : fLen [b] = some (.int (n : Int))) (F : Fac n f) {m : Nat} (hm : m < n) {σ : Sg} (hσ : gscl f n m = some σ) (hD : En n kvs σ) {e8 : Option D} :
    (∃ σ' kvs', gscl f n (m + 1) = some σ' ∧ p_law_scales_2_b [some (.pd b), some (.pd (rowsD n f)), some (.ref 0), some (.pd (.int (m : Int))), none, none, none, none, e8] (.dic kvs :: ex) =
      .ok ((.nx, [some (.pd b), some (.pd (rowsD n f)), some (.ref 0), some (.pd (.int (m : Int))), none, none, none, none, e8]), .dic kvs' :: (ex ++ [.lst []])) ∧ En n kvs' σ') ∨
    (gscl f n (m + 1) = none ∧ RtN (p_law_scales_2_b [some (.pd b), some (.pd (rowsD n f)), some (.ref 0), some (.pd (.int (m : Int))), none, none, none, none, e8] (.dic kvs :: ex))) := by
  have T := (gscl_told F m σ (by omega) hσ).1
  obtain ⟨j1, j2, j3, j4⟩ := gini T hm
  have n5 := F.n5
  have sm := hD.small n5
  have dm := hD.at_ m hm
  have sl1 : (1 : Nat) ≤ sizeLine := sizeLine_ge (by decide)
  have step : ∃ kv1, p_law_scales_2_b_0 [some (.pd b), some (.pd (rowsD n f)), some (.ref 0), some (.pd (.int (m : Int))), none, none, none, none, e8] (.dic kvs :: ex) =
        .ok ((.nx, [some (.pd b), some (.pd (rowsD n f)), some (.ref 0), some (.pd (.int (m : Int))), some (.ref (ex.length + 1)), none, none, none, e8]), .dic kvs :: (ex ++ [.lst (intsD (ini σ m).2)])) ∧
      p_law_scales_2_b_1 [some (.pd b), some (.pd (rowsD n f)), some (.ref 0), some (.pd (.int (m : Int))), some (.ref (ex.length + 1)), none, none, none, e8] (.dic kvs :: (ex ++ [.lst (intsD (ini σ m).2)])) =
        .ok ((.nx, [some (.pd b), some (.pd (rowsD n f)), some (.ref 0), some (.pd (.int (m : Int))), some (.ref (ex.length + 1)), none, none, none, e8]), .dic kv1 :: (ex ++ [.lst (intsD (ini σ m).2)])) ∧ En n kv1 (ini σ m).1 := by
    unfold ini
    cases hs : σ m with
    | some w =>
      rw [hs] at dm
      have dm' : lk kvs (.inl (m : Int)) = some (fr w) := dm
      have dp := v_dP0 kvs (ex ++ [.lst (intsD [])]) (m : Int) ONEd sm
      refine ⟨kvs, ?_, ?_, hD⟩
      · simp [p_law_scales_2_b_0, dm', bindT, intsD, sizeLine_ge]
      · simp [p_law_scales_2_b_1, dm', dp, sizeLine_ge]
    | none =>
      rw [hs] at dm
      have dm' : lk kvs (.inl (m : Int)) = none := dm
      have dp := v_dP0 kvs (ex ++ [.lst (intsD [m])]) (m : Int) ONEd sm
      refine ⟨pt kvs (.inl (m : Int)) (fr 1), ?_, ?_, hD.put hm hs 1⟩
      · simp [p_law_scales_2_b_0, dm', bindT, intsD, sl1]
      · simp [p_law_scales_2_b_1, dm', dp, sizeLine_ge]
        rfl
  obtain ⟨kv1, s0, s1, hD1⟩ := step
  have eg : gscl f n (m + 1) = (gwhl f n (2 * n) (ini σ m)).map (·.1) := by
    conv => lhs; unfold gscl
    rw [hσ]
    rfl
  rcases law_while (ex := ex) (x3 := some (.pd (.int (m : Int)))) (e8 := e8) hb F j1 hD1 j4 with ⟨s', kv2, q0, q1, q2⟩ | ⟨q0, q1⟩
  · refine .inl ⟨s'.1, kv2, by rw [eg, q0]; rfl, ?_, q2⟩
    unfold p_law_scales_2_b
    rw [v_forget, seq_nx s0, seq_nx s1, q1]
    rfl
  · refine .inr ⟨by rw [eg, q0]; rfl, ?_⟩
    obtain ⟨env', μ', q2⟩ := q1.ex
    unfold p_law_scales_2_b
    rw [v_forget, seq_nx s0, seq_nx s1, q2]
    trivial
theorem law_scales_ok (hb : fLen [b] = some (.int (n : Int))) (F : Fac n f) (look : p_law_scales_0 [some (.pd b), none, none, none, none, none, none, none, none] [] = .ok ((.nx, [some (.pd b), none, none, none, none, none, none, none, none]), []))
    (rows : eLcD [8] (.nm 8) (iTp (eVar 0)) tYesE (eIx (eIx (eVar 8) (eC (.int 0))) (eC (.int 1))) [some (.pd b), none, none, none, none, none, none, none, none] [] = .ok ((List.range n).map (fun i => D.pd (rowD n f i)), [])) : F__law_scales [b] = .ok (scD n (gscl f n n)) := by
  have n5 := F.n5
  have key := for_relR (T := .nm 3) (b := p_law_scales_2_b) (ei := iRg1 (eCall fLen (aCons (eVar 0) aNil)))
    (env := [some (.pd b), some (.pd (rowsD n f)), some (.ref 0), none, none, none, none, none, none]) (μ := [.dic []]) (μ1 := [.dic []])
    (fun m env μ => ∃ σ kvs ex e3, gscl f n m = some σ ∧ env = [some (.pd b), some (.pd (rowsD n f)), some (.ref 0), e3, none, none, none, none, none] ∧ μ = .dic kvs :: ex ∧ En n kvs σ)
    (fun m r _ _ => r = .pd .none ∧ gscl f n (m + 1) = none)
    (rg1_ok (n := n) (by simp [hb]) (by omega)) ⟨_, [], [], none, rfl, rfl, rfl, fun i _ => rfl, by have := unt_le (fun _ => none) n; simpa using this⟩ (fun _ _ _ _ => held_nil) (fun j d env μ hd hp => by
      obtain ⟨σ, kv1, ex1, e3, g0, rfl, rfl, g1⟩ := hp
      obtain ⟨hj, rfl⟩ := range_item hd
      rcases law_first (ex := ex1) (e8 := none) hb F hj g0 g1 with ⟨σ', kv2, q0, q1, q2⟩ | ⟨q0, q1⟩
      · exact ⟨[some (.pd b), some (.pd (rowsD n f)), some (.ref 0), some (.pd (.int (j : Int))), none, none, none, none, none], _, _, by simp [bindT], .inl ⟨.inl q1, σ', kv2, _, _, q0, rfl, rfl, q2⟩⟩
      · obtain ⟨env', μ', q2⟩ := q1.ex
        exact ⟨[some (.pd b), some (.pd (rowsD n f)), some (.ref 0), some (.pd (.int (j : Int))), none, none, none, none, none], _, _, by simp [bindT], .inr ⟨_, q2, rfl, q0⟩⟩)
  have s1 : p_law_scales_1 [some (.pd b), none, none, none, none, none, none, none, none] [] = .ok ((.nx, [some (.pd b), some (.pd (rowsD n f)), some (.ref 0), none, none, none, none, none, none]), [.dic []]) := by
    unfold p_law_scales_1
    rw [v_par, v_acons, v_frz, v_asF, rows]
    simp [bindTs, bindT, rowsD]
  simp only [List.length_map, List.length_range] at key
  rcases key with ⟨env', μ', h1, σ, kvs', ex', e3, g0, rfl, rfl, h2⟩ | ⟨j, r, env', μ', hj, h1, rfl, g0⟩
  · rw [g0]
    obtain ⟨S, at_⟩ := gscl_sca F g0
    have c3 := comp_mapA (g := []) (T := .nm 3) (μ := .dic kvs' :: ex') (elt := eDGet (eVar 2) (eVar 3)) (env := wipeE [some (.pd b), some (.pd (rowsD n f)), some (.ref 0), e3, none, none, none, none, none] [3]) held_nil (fun i : Nat => D.pd (.int (i : Int))) (fun i => D.pd (fr ((σ i).getD 1))) (List.range n) (fun i hi => by
      simp at hi
      have dm := h2.at_ i hi
      rw [at_ i hi] at dm
      have dm' : lk kvs' (.inl (i : Int)) = some (fr ((σ i).getD 1)) := dm
      exact ⟨[some (.pd b), some (.pd (rowsD n f)), some (.ref 0), some (.pd (.int (i : Int))), none, none, none, none, none], by simp [bindT, wipeE], by simp [dm']⟩)
    have i3 := rg1_ok (a := eCall fLen (aCons (eVar 0) aNil)) (env := [some (.pd b), some (.pd (rowsD n f)), some (.ref 0), e3, none, none, none, none, none]) (μ := .dic kvs' :: ex') (μ1 := .dic kvs' :: ex') (n := n) (by simp [hb]) (by omega)
    have l3 := lcD_eq (vs := [3]) i3 (by rw [List.length_map, List.length_range]; exact sizeLine_ge (by omega)) c3
    have s3 : p_law_scales_3 [some (.pd b), some (.pd (rowsD n f)), some (.ref 0), e3, none, none, none, none, none] (.dic kvs' :: ex') = .ok ((.rt (.pd (.tuple ((List.range n).map fun i => fr ((σ i).getD 1)))), [some (.pd b), some (.pd (rowsD n f)), some (.ref 0), e3, none, none, none, none, none]), .dic kvs' :: ex') := by
      unfold p_law_scales_3
      rw [v_ret, v_call, v_acons, v_frz, v_asF, l3]
      simp
    exact fnP_run ((congrFun (congrFun parts_law_scales _) _).trans ((seq_nx look).trans ((seq_nx s1).trans ((seq_nx h1).trans s3)))) rfl rfl
  · rw [gscl_none g0 n (by omega)]
    exact fnP_run ((congrFun (congrFun parts_law_scales _) _).trans ((seq_nx look).trans ((seq_nx s1).trans (seq_rt h1)))) rfl rfl
end
end P55

set_option Elab.async false
set_option linter.all false
set_option maxRecDepth 100000
set_option maxHeartbeats 1000000
/-! Books of any rules: both texts' scales are the same, None or not. -/
namespace P55
open PySem PySem.Spec PyProof.Rows L2 Zd
def cel (B : List (List Ru)) (i : Nat) : List Ru := B.getD i []
def rul (B : List (List Ru)) (i : Nat) : Ru := (cel B i).headD (0, [])
def fac (B : List (List Ru)) (i j : Nat) : Rat := (rul B i).2.getD j 0
theorem map_cel {α : Type} (B : List (List Ru)) (g : List Ru → α) : B.map g = (List.range B.length).map fun i => g (cel B i) := by
  apply List.ext_getElem
  · simp
  · intro i h1 h2
    simp at h1
    simp [cel, List.getD, h1]
theorem map_get {α β : Type} (L : List α) (d : α) (g : α → β) : L.map g = (List.range L.length).map fun i => g (L.getD i d) := by
  apply List.ext_getElem
  · simp
  · intro i h1 h2
    simp at h1
    simp [List.getD, h1]
theorem cel_mem {B : List (List Ru)} {i : Nat} (hi : i < B.length) : cel B i ∈ B := by
  simp only [cel, List.getD, List.getElem?_eq_getElem hi, Option.getD_some]
  exact List.getElem_mem hi
theorem gb_cel (B : List (List Ru)) : gbD B = .tuple ((List.range B.length).map fun i => ceD (cel B i)) := by
  show PyData.tuple (B.map ceD) = _
  rw [map_cel B ceD]
/-- one rule in each cell, no cell reads itself -/
def sgl (B : List (List Ru)) : Bool := (List.range B.length).all fun i => decide ((cel B i).length = 1) && decide (fac B i i = 0)
theorem any_fun {α : Type} (b : α → Bool) (l : List α) : fAny [.list (l.map fun x => PyData.bool (b x))] = some (.bool (l.any b)) := by
  have h : boolsOf (l.map fun x => PyData.bool (b x)) = some (l.map b) := by
    induction l with
    | nil => rfl
    | cons x r ih => simp [boolsOf, ih]
  simp [fAny, h]
theorem tp_ok {a : EvE} {env : Zd.Env} {μ μ1 : Store} {ds : List PyData} (h : a env μ = .ok (.pd (.tuple ds), μ1)) : iTp a env μ = .ok ((ds.map .pd, []), μ1) := by
  unfold iTp
  rw [h]
  rfl
theorem en_ok {a : EvE} {env : Zd.Env} {μ μ1 : Store} {n : Nat} (G : Nat → PyData) (h : a env μ = .ok (.pd (.tuple ((List.range n).map G)), μ1)) : iEn a env μ = .ok (((List.range n).map fun i => D.pd (.tuple [.int (i : Nat), G i]), []), μ1) := by
  unfold iEn
  rw [h]
  simp only [Out.ok_bind, srcA]
  rw [pdAll_of]
  dsimp only
  congr 3
  apply List.ext_getElem
  · simp
  · intro i h1 h2
    simp
theorem anyL {α : Type} {L : EvA} {env : Zd.Env} {μ : Store} (b : α → Bool) (l : List α) (h : L env μ = .ok (l.map (fun x => D.pd (.bool (b x))), μ)) : eTst (eCall fAny (aCons (eFrz (asF L)) aNil)) env μ = .ok (l.any b, μ) := by
  rw [v_tst, v_call, v_acons, v_frz, v_asF, h, Out.ok_bind]
  dsimp only
  rw [pdAll_fun]
  dsimp only [Out.ok_bind, Out.bind, aNil]
  rw [v_derefs1, v_derefs0]
  dsimp only [Option.map]
  rw [any_fun]
section
variable {B : List (List Ru)} {i j : Nat}
theorem cel_cons (W : WB B) (hi : i < B.length) : ∃ r rest, cel B i = r :: rest ∧ rul B i = r ∧ WR B.length r := by
  have C := W.ce _ (cel_mem hi)
  cases h : cel B i with
  | nil =>
    have := C.pos
    rw [h] at this
    simp at this
  | cons r rest => exact ⟨r, rest, rfl, by simp [rul, h], C.ru r (by simp [h])⟩
theorem gb_len (B : List (List Ru)) : fLen [gbD B] = some (.int (B.length : Int)) := by simp [gbD]
@[simp] theorem gb_at (hi : i < B.length) : fIx (gbD B) (.int (i : Int)) = some (ceD (cel B i)) := by
  rw [gb_cel]
  exact at_range _ hi
theorem ce_at0 {r : Ru} {rest : List Ru} : fIx (ceD (r :: rest)) (.int 0) = some (ruD r) := by simp [ceD]
theorem ru_at1 {r : Ru} : fIx (ruD r) (.int 1) = some (.tuple (r.2.map fr)) := rfl
theorem ru_row (W : WB B) (hi : i < B.length) : PyData.tuple ((rul B i).2.map fr) = rowD B.length (fac B) i := by
  obtain ⟨r, rest, h1, h2, h3⟩ := cel_cons W hi
  rw [map_get _ (0 : Rat) fr]
  rw [h2, h3.len]
  simp only [rowD, fac, h2]
theorem gb_row (W : WB B) (hi : i < B.length) : (fIx (ceD (cel B i)) (.int 0)).bind (fun d => fIx d (.int 1)) = some (rowD B.length (fac B) i) := by
  obtain ⟨r, rest, h1, h2, h3⟩ := cel_cons W hi
  have := ru_row W hi
  rw [h2] at this
  rw [h1, ce_at0]
  show fIx (ruD r) (.int 1) = _
  rw [ru_at1, this]
theorem gb_fac (W : WB B) : Bk (gbD B) B.length (fac B) := by
  refine ⟨fun i j hi hj => ?_, gb_len B⟩
  obtain ⟨r, rest, h1, h2, h3⟩ := cel_cons W hi
  have e := ru_row W hi
  rw [h2] at e
  unfold F_factor_of fnP ev_factor_of
  simp [hi, h1, ce_at0, ru_at1, e, hj, frz]
theorem gb_Fac (W : WB B) : Fac B.length (fac B) := by
  refine ⟨W.pos, W.most, fun i j hi hj => ?_⟩
  obtain ⟨r, rest, h1, h2, h3⟩ := cel_cons W hi
  have hl : j < r.2.length := by rw [h3.len]; exact hj
  have : fac B i j = r.2[j] := by
    simp [fac, h2, List.getD, hl]
  rw [this]
  exact h3.bd _ (List.getElem_mem hl)
theorem lookA {e1 e2 e3 e4 e5 e6 e7 e8 : Option D} {μ : Store} (W : WB B) : eLcD [7] (.nm 7) (iTp (eVar 0)) tYesE (eOp2 fGt (eCall fLen (aCons (eVar 7) aNil)) (eC (.int 1))) [some (.pd (gbD B)), e1, e2, e3, e4, e5, e6, e7, e8] μ = .ok ((List.range B.length).map (fun i => D.pd (.bool (decide (1 < ((cel B i).length : Int))))), μ) := by
  have c1 := comp_mapA (g := []) (T := .nm 7) (μ := μ) (elt := eOp2 fGt (eCall fLen (aCons (eVar 7) aNil)) (eC (.int 1))) (env := wipeE [some (.pd (gbD B)), e1, e2, e3, e4, e5, e6, e7, e8] [7]) held_nil (fun i => D.pd (ceD (cel B i))) (fun i => D.pd (.bool (decide (1 < ((cel B i).length : Int))))) (List.range B.length) (fun i hi =>
    ⟨[some (.pd (gbD B)), e1, e2, e3, e4, e5, e6, some (.pd (ceD (cel B i))), e8], by simp [bindT, wipeE], by simp [ceD]⟩)
  have i1 := tp_ok (a := eVar 0) (env := [some (.pd (gbD B)), e1, e2, e3, e4, e5, e6, e7, e8]) (μ := μ) (μ1 := μ) (ds := (List.range B.length).map fun i => ceD (cel B i)) (by rw [← gb_cel]; exact v_var 0 rfl)
  rw [List.map_map] at i1
  have m5 := W.most
  exact lcD_eq i1 (by rw [List.length_map, List.length_range]; exact sizeLine_ge (by omega)) c1
theorem lookB {e1 e2 e3 e4 e5 e6 e7 e8 : Option D} {μ : Store} (W : WB B) : eLcD [8] (.nm 8) (iRg1 (eCall fLen (aCons (eVar 0) aNil))) tYesE (eOp2 fNe (eCallP F_factor_of (aCons (eVar 0) (aCons (eVar 8) (aCons (eVar 8) aNil)))) (eC ZEROd)) [some (.pd (gbD B)), e1, e2, e3, e4, e5, e6, e7, e8] μ = .ok ((List.range B.length).map (fun i => D.pd (.bool (!decide (fac B i i = 0)))), μ) := by
  have m5 := W.most
  have c2 := comp_mapA (g := []) (T := .nm 8) (μ := μ) (elt := eOp2 fNe (eCallP F_factor_of (aCons (eVar 0) (aCons (eVar 8) (aCons (eVar 8) aNil)))) (eC ZEROd)) (env := wipeE [some (.pd (gbD B)), e1, e2, e3, e4, e5, e6, e7, e8] [8]) held_nil (fun i : Nat => D.pd (.int (i : Int))) (fun i => D.pd (.bool (!decide (fac B i i = 0)))) (List.range B.length) (fun i hi => by
    simp at hi
    have hf := (gb_fac W).fac i i hi hi
    exact ⟨[some (.pd (gbD B)), e1, e2, e3, e4, e5, e6, e7, some (.pd (.int (i : Int)))], by simp [bindT, wipeE], by simp [hf, zero_fr]⟩)
  exact lcD_eq (rg1_ok (n := B.length) (by simp [gb_len]) (by omega)) (by rw [List.length_map, List.length_range]; exact sizeLine_ge (by omega)) c2
theorem sgl_bad (W : WB B) : ((List.range B.length).any (fun i => decide (1 < ((cel B i).length : Int))) || (List.range B.length).any (fun i => !decide (fac B i i = 0))) = !sgl B := by
  have pos : ∀ i, i < B.length → 1 ≤ (cel B i).length := fun i hi => (W.ce _ (cel_mem hi)).pos
  rw [Bool.eq_iff_iff]
  simp only [sgl, Bool.or_eq_true, List.any_eq_true, List.mem_range, decide_eq_true_eq, Bool.not_eq_true', decide_eq_false_iff_not, List.all_eq_false, Bool.and_eq_true, not_and]
  constructor
  · rintro (⟨i, hi, h⟩ | ⟨i, hi, h⟩)
    · exact ⟨i, hi, fun z => by omega⟩
    · exact ⟨i, hi, fun _ => h⟩
  · rintro ⟨i, hi, h⟩
    by_cases e : (cel B i).length = 1
    · exact .inr ⟨i, hi, h e⟩
    · have := pos i hi
      exact .inl ⟨i, hi, by omega⟩
theorem prog_look (W : WB B) (μ : Store) : (sgl B = true → p_scales_of_0 [some (.pd (gbD B)), none, none, none, none, none, none, none, none] μ = .ok ((.nx, [some (.pd (gbD B)), none, none, none, none, none, none, none, none]), μ)) ∧
    (sgl B = false → p_scales_of_0 [some (.pd (gbD B)), none, none, none, none, none, none, none, none] μ = .ok ((.rt (.pd .none), [some (.pd (gbD B)), none, none, none, none, none, none, none, none]), μ)) := by
  have l1 := anyL _ _ (lookA (e1 := none) (e2 := none) (e3 := none) (e4 := none) (e5 := none) (e6 := none) (e7 := none) (e8 := none) (μ := μ) W)
  have l2 := anyL _ _ (lookB (e1 := none) (e2 := none) (e3 := none) (e4 := none) (e5 := none) (e6 := none) (e7 := none) (e8 := none) (μ := μ) W)
  have sb := sgl_bad W
  have key : eOrT (eTst (eCall fAny (aCons (eFrz (asF (eLcD [7] (.nm 7) (iTp (eVar 0)) tYesE (eOp2 fGt (eCall fLen (aCons (eVar 7) aNil)) (eC (.int 1)))))) aNil))) (eTst (eCall fAny (aCons (eFrz (asF (eLcD [8] (.nm 8) (iRg1 (eCall fLen (aCons (eVar 0) aNil))) tYesE (eOp2 fNe (eCallP F_factor_of (aCons (eVar 0) (aCons (eVar 8) (aCons (eVar 8) aNil)))) (eC ZEROd))))) aNil)))
      [some (.pd (gbD B)), none, none, none, none, none, none, none, none] μ = .ok (!sgl B, μ) := by
    rw [v_orT, l1, Out.ok_bind]
    cases h1 : (List.range B.length).any (fun i => decide (1 < ((cel B i).length : Int))) with
    | true =>
      rw [h1, Bool.true_or] at sb
      rw [if_pos rfl, ← sb]
    | false =>
      rw [h1, Bool.false_or] at sb
      rw [if_neg Bool.false_ne_true, l2, sb]
  constructor
  · intro h
    unfold p_scales_of_0
    rw [v_sif, key, Out.ok_bind, h]
    rfl
  · intro h
    unfold p_scales_of_0
    rw [v_sif, key, Out.ok_bind, h]
    rfl
theorem lookL {e1 e2 e3 e4 e5 e6 e7 e8 : Option D} {μ : Store} (W : WB B) :
    eLcD [3, 8] (.tp [(.nm 3), (.nm 8)]) (iEn (eVar 0)) (eOrT (eTst (eOp2 fNe (eCall fLen (aCons (eVar 8) aNil)) (eC (.int 1)))) (eTst (eOp2 fNe (eIx (eIx (eIx (eIx (eVar 8) (eC (.int 0))) (eC (.int 1))) (eVar 3)) (eC (.int 0))) (eC (.int 0))))) (eVar 3)
      [some (.pd (gbD B)), e1, e2, e3, e4, e5, e6, e7, e8] μ = .ok (((List.range B.length).filter fun i => !(decide ((cel B i).length = 1) && decide (fac B i i = 0))).map fun i : Nat => D.pd (.int (i : Int)), μ) := by
  have m5 := W.most
  have c1 := comp_filA (g := []) (T := .tp [(.nm 3), (.nm 8)]) (μ := μ) (tst := eOrT (eTst (eOp2 fNe (eCall fLen (aCons (eVar 8) aNil)) (eC (.int 1)))) (eTst (eOp2 fNe (eIx (eIx (eIx (eIx (eVar 8) (eC (.int 0))) (eC (.int 1))) (eVar 3)) (eC (.int 0))) (eC (.int 0))))) (elt := eVar 3)
    (env := wipeE [some (.pd (gbD B)), e1, e2, e3, e4, e5, e6, e7, e8] [3, 8]) held_nil (fun i : Nat => D.pd (.tuple [.int (i : Int), ceD (cel B i)])) (fun i : Nat => D.pd (.int (i : Int))) (fun i => !(decide ((cel B i).length = 1) && decide (fac B i i = 0))) (List.range B.length) (fun i hi => by
      simp at hi
      obtain ⟨r, rest, h1, h2, h3⟩ := cel_cons W hi
      have e := ru_row W hi
      rw [h2] at e
      refine ⟨[some (.pd (gbD B)), e1, e2, some (.pd (.int (i : Int))), e4, e5, e6, e7, some (.pd (ceD (cel B i)))], by simp [bindT, bindTs, wipeE], ?_, fun z => by simp⟩
      have hlen : fLen [ceD (cel B i)] = some (.int ((cel B i).length : Int)) := by simp [ceD]
      by_cases hl : (cel B i).length = 1
      · by_cases hz : fac B i i = 0
        · have r0 : rest = [] := by rw [h1] at hl; simpa using hl
          subst r0
          simp [h1, ce_at0, ru_at1, e, hi, hz, ceD]
        · have n0 := num_ne hz
          have r0 : rest = [] := by rw [h1] at hl; simpa using hl
          subst r0
          simp [h1, ce_at0, ru_at1, e, hi, hz, n0, ceD]
      · have hl2 : ¬ (((cel B i).length : Int) = 1) := by omega
        simp [hlen, hl, hl2])
  exact lcD_eq (en_ok (fun i => ceD (cel B i)) (by rw [← gb_cel]; exact v_var 0 rfl)) (by rw [List.length_map, List.length_range]; exact sizeLine_ge (by omega)) c1
theorem law_look (W : WB B) : (sgl B = true → p_law_scales_0 [some (.pd (gbD B)), none, none, none, none, none, none, none, none] [] = .ok ((.nx, [some (.pd (gbD B)), none, none, none, none, none, none, none, none]), [])) ∧
    (sgl B = false → p_law_scales_0 [some (.pd (gbD B)), none, none, none, none, none, none, none, none] [] = .ok ((.rt (.pd .none), [some (.pd (gbD B)), none, none, none, none, none, none, none, none]), [])) := by
  have l1 := lookL (e1 := none) (e2 := none) (e3 := none) (e4 := none) (e5 := none) (e6 := none) (e7 := none) (e8 := none) (μ := []) W
  have key : eTst (eOp2 fNe (eFrz (asF (eLcD [3, 8] (.tp [(.nm 3), (.nm 8)]) (iEn (eVar 0)) (eOrT (eTst (eOp2 fNe (eCall fLen (aCons (eVar 8) aNil)) (eC (.int 1)))) (eTst (eOp2 fNe (eIx (eIx (eIx (eIx (eVar 8) (eC (.int 0))) (eC (.int 1))) (eVar 3)) (eC (.int 0))) (eC (.int 0))))) (eVar 3)))) (eFrz (eLst aNil)))
      [some (.pd (gbD B)), none, none, none, none, none, none, none, none] [] = .ok (!sgl B, []) := by
    rw [v_tst, v_op2, v_frz, v_asF, l1, Out.ok_bind]
    dsimp only
    rw [pdAll_fun]
    have hn := ne_nil ((List.range B.length).filter fun i => !(decide ((cel B i).length = 1) && decide (fac B i i = 0)))
    have he : (!((List.range B.length).filter fun i => !(decide ((cel B i).length = 1) && decide (fac B i i = 0))).isEmpty) = !sgl B := by
      congr 1
      rw [Bool.eq_iff_iff, List.isEmpty_iff, List.filter_eq_nil_iff]
      simp [sgl]
    rw [he] at hn
    unfold intsD at hn
    have z : (0 : Nat) ≤ sizeLine := Nat.zero_le _
    simp only [Bool.not_and] at hn ⊢
    simp [hn]
  constructor
  · intro h
    unfold p_law_scales_0
    rw [v_sif, key, Out.ok_bind, h]
    rfl
  · intro h
    unfold p_law_scales_0
    rw [v_sif, key, Out.ok_bind, h]
    rfl
theorem rowsC (W : WB B) : eLcD [8] (.nm 8) (iTp (eVar 0)) tYesE (eIx (eIx (eVar 8) (eC (.int 0))) (eC (.int 1))) [some (.pd (gbD B)), none, none, none, none, none, none, none, none] [] = .ok ((List.range B.length).map (fun i => D.pd (rowD B.length (fac B) i)), []) := by
  have m5 := W.most
  have c1 := comp_mapA (g := []) (T := .nm 8) (μ := []) (elt := eIx (eIx (eVar 8) (eC (.int 0))) (eC (.int 1))) (env := wipeE [some (.pd (gbD B)), none, none, none, none, none, none, none, none] [8]) held_nil (fun i => D.pd (ceD (cel B i))) (fun i => D.pd (rowD B.length (fac B) i)) (List.range B.length) (fun i hi => by
    simp at hi
    obtain ⟨r, rest, h1, h2, h3⟩ := cel_cons W hi
    have e := ru_row W hi
    rw [h2] at e
    exact ⟨[some (.pd (gbD B)), none, none, none, none, none, none, none, some (.pd (ceD (cel B i)))], by simp [bindT, wipeE], by simp [h1, ce_at0, ru_at1, e]⟩)
  have i1 := tp_ok (a := eVar 0) (env := [some (.pd (gbD B)), none, none, none, none, none, none, none, none]) (μ := []) (μ1 := []) (ds := (List.range B.length).map fun i => ceD (cel B i)) (by rw [← gb_cel]; exact v_var 0 rfl)
  rw [List.map_map] at i1
  exact lcD_eq i1 (by rw [List.length_map, List.length_range]; exact sizeLine_ge (by omega)) c1
/-- the scales of any book -/
def scs (B : List (List Ru)) : Option Sg := if sgl B = true then gscl (fac B) B.length B.length else none
theorem scales_any (W : WB B) : F_scales_of [gbD B] = .ok (scD B.length (scs B)) ∧ F__law_scales [gbD B] = .ok (scD B.length (scs B)) := by
  obtain ⟨p1, p2⟩ := prog_look W []
  obtain ⟨q1, q2⟩ := law_look W
  unfold scs
  cases h : sgl B with
  | true =>
    rw [if_pos rfl]
    exact ⟨scales_ok (gb_fac W) (gb_Fac W) (fun μ => (prog_look W μ).1 h), law_scales_ok (gb_len B) (gb_Fac W) (q1 h) (rowsC W)⟩
  | false =>
    rw [if_neg Bool.false_ne_true]
    exact ⟨fnP_run ((congrFun (congrFun parts_scales_of _) _).trans (seq_rt (p2 h))) rfl rfl, fnP_run ((congrFun (congrFun parts_law_scales _) _).trans (seq_rt (q2 h))) rfl rfl⟩
end
end P55

set_option Elab.async false
set_option linter.all false
set_option maxRecDepth 100000
set_option maxHeartbeats 1000000
/-! Sums, sizes by common denominators, and the energy as a function of one value: plain. -/
namespace P55
open PySem PySem.Spec PyProof.Rows L2 Zd
def tot (g : Nat → Rat) : Nat → Rat
  | 0 => 0
  | k + 1 => tot g k + g k
theorem tot_congr {g h : Nat → Rat} : ∀ k, (∀ j, j < k → g j = h j) → tot g k = tot h k
  | 0, _ => rfl
  | k + 1, e => by
    show tot g k + g k = tot h k + h k
    rw [tot_congr k fun j hj => e j (by omega), e k (by omega)]
theorem tot_sub (g h : Nat → Rat) : ∀ k, tot (fun j => g j - h j) k = tot g k - tot h k
  | 0 => by show (0 : Rat) = 0 - 0; grind
  | k + 1 => by
    show tot (fun j => g j - h j) k + (g k - h k) = (tot g k + g k) - (tot h k + h k)
    rw [tot_sub g h k]
    grind
theorem tot_mul (c : Rat) (g : Nat → Rat) : ∀ k, tot (fun j => c * g j) k = c * tot g k
  | 0 => by show (0 : Rat) = c * 0; grind
  | k + 1 => by
    show tot (fun j => c * g j) k + c * g k = c * (tot g k + g k)
    rw [tot_mul c g k]
    grind
theorem tot_mulr (c : Rat) (g : Nat → Rat) (k : Nat) : tot (fun j => g j * c) k = tot g k * c := by
  have := tot_mul c g k
  rw [Rat.mul_comm] at this
  rw [← this]
  exact tot_congr k fun j _ => Rat.mul_comm _ _
theorem tot_zero {g : Nat → Rat} : ∀ k, (∀ j, j < k → g j = 0) → tot g k = 0
  | 0, _ => rfl
  | k + 1, e => by
    show tot g k + g k = 0
    rw [tot_zero k fun j hj => e j (by omega), e k (by omega)]
    grind
theorem tot_split (g : Nat → Rat) (t : Nat) : ∀ m, tot g (t + m) = tot g t + tot (fun k => g (t + k)) m
  | 0 => by show tot g t = tot g t + 0; grind
  | m + 1 => by
    show tot g (t + m) + g (t + m) = tot g t + (tot (fun k => g (t + k)) m + g (t + m))
    rw [tot_split g t m]
    grind
theorem tot_at (g : Nat → Rat) {t n : Nat} (ht : t < n) : tot g n = tot g t + g t + tot (fun k => g (t + 1 + k)) (n - (t + 1)) := by
  have := tot_split g (t + 1) (n - (t + 1))
  rw [show t + 1 + (n - (t + 1)) = n from by omega] at this
  exact this
theorem tot_add (g h : Nat → Rat) : ∀ k, tot (fun j => g j + h j) k = tot g k + tot h k
  | 0 => by show (0 : Rat) = 0 + 0; grind
  | k + 1 => by
    show tot (fun j => g j + h j) k + (g k + h k) = (tot g k + g k) + (tot h k + h k)
    rw [tot_add g h k]
    grind
theorem tot_one {n c : Nat} (hc : c < n) (q : Rat) : tot (fun k => if k = c then q else 0) n = q := by
  rw [tot_at _ hc, tot_zero c fun j hj => if_neg (by omega), tot_zero (n - (c + 1)) fun k hk => if_neg (by omega), if_pos rfl]
  grind
theorem Fx.tot {D N : Nat} {g : Nat → Rat} : ∀ k, (∀ j, j < k → Fx D N (g j)) → Fx D (k * N) (tot g k)
  | 0, _ => Fx.zero D _
  | k + 1, h => by
    have := (Fx.tot k fun j hj => h j (by omega)).add (h k (by omega))
    rw [Nat.succ_mul]
    exact this
theorem fx_sm {D N : Nat} {q : Rat} (h : Fx D N q) (d1 : 0 < D) (d2 : D ≤ 2 ^ 3000) (d3 : N ≤ 2 ^ 3000) : Sm q := Sm.of1 (h.bd d1) d3 d2
theorem bd_fx {N D : Nat} {q : Rat} (h : Bd N D q) : Fx q.den N q := by
  refine ⟨q.num, ?_, h.1⟩
  have e := Rat.num_divInt_den q
  rw [Rat.divInt_eq_div] at e
  have hne := nat_ne q.den_pos
  have e2 : ((q.den : Int) : Rat) = (q.den : Rat) := rfl
  rw [e2] at e
  grind
/-- numbers of one size have a common denominator -/
theorem common {N M : Nat} (hM : 1 ≤ M) {g : Nat → Rat} : ∀ n, (∀ i, i < n → Bd N M (g i)) → ∃ D, 0 < D ∧ D ≤ M ^ n ∧ ∀ i, i < n → Fx D (N * M ^ n) (g i)
  | 0, _ => ⟨1, by decide, by simp, fun i hi => by omega⟩
  | n + 1, h => by
    obtain ⟨D, d1, d2, d3⟩ := common hM n fun i hi => h i (by omega)
    have hn := h n (by omega)
    refine ⟨D * (g n).den, Nat.mul_pos d1 (g n).den_pos, ?_, fun i hi => ?_⟩
    · rw [Nat.pow_succ]
      exact Nat.mul_le_mul d2 hn.2
    · by_cases e : i = n
      · subst e
        have := (bd_fx hn).lift D
        rw [Nat.mul_comm (g i).den D] at this
        refine this.mono (Nat.mul_le_mul (Nat.le_refl _) (Nat.le_trans d2 ?_))
        exact Nat.pow_le_pow_right hM (by omega)
      · refine ((d3 i (by omega)).lift (g n).den).mono ?_
        rw [Nat.pow_succ, ← Nat.mul_assoc]
        exact Nat.mul_le_mul (Nat.le_refl _) hn.2
/-- at most so large -/
def Ab (M : Nat) (q : Rat) : Prop := -(M : Rat) ≤ q ∧ q ≤ (M : Rat)
theorem Ab.of_bd {N D : Nat} {q : Rat} (h : Bd N D q) : Ab N q := by
  have e := Rat.num_divInt_den q
  rw [Rat.divInt_eq_div] at e
  have hd : (1 : Rat) ≤ (q.den : Rat) := by
    have := q.den_pos
    have h1 : ((1 : Nat) : Rat) ≤ (q.den : Rat) := Rat.natCast_le_natCast.mpr this
    exact h1
  have e2 : ((q.den : Int) : Rat) = (q.den : Rat) := rfl
  rw [e2] at e
  have hq : (q.num : Rat) = q * (q.den : Rat) := by
    have hne := nat_ne q.den_pos
    grind
  have b1 : -(N : Rat) ≤ (q.num : Rat) ∧ (q.num : Rat) ≤ (N : Rat) := by
    have h1 := h.1
    constructor
    · have : (-(N : Int)) ≤ q.num := by omega
      have z := Rat.intCast_le_intCast.mpr this
      rw [Rat.intCast_neg] at z
      exact z
    · have : q.num ≤ (N : Int) := by omega
      exact Rat.intCast_le_intCast.mpr this
  have n0 : (0 : Rat) ≤ (N : Rat) := by
    have := Rat.natCast_le_natCast.mpr (Nat.zero_le N)
    exact this
  constructor
  · refine Rat.not_lt.mp fun z => ?_
    have : q * (q.den : Rat) < -(N : Rat) := by
      have h0 : q < 0 := by grind
      have h1 : 0 ≤ (-q) * ((q.den : Rat) - 1) := Rat.mul_nonneg (by grind) (by grind)
      grind
    grind
  · refine Rat.not_lt.mp fun z => ?_
    have : (N : Rat) < q * (q.den : Rat) := by
      have h1 : 0 ≤ q * ((q.den : Rat) - 1) := Rat.mul_nonneg (by grind) (by grind)
      grind
    grind
theorem Ab.bd {M D : Nat} {q : Rat} (h : Ab M q) (hd : q.den ≤ D) : Bd (M * D) D q := by
  refine ⟨?_, hd⟩
  have e := Rat.num_divInt_den q
  rw [Rat.divInt_eq_div] at e
  have e2 : ((q.den : Int) : Rat) = (q.den : Rat) := rfl
  rw [e2] at e
  have hne := nat_ne q.den_pos
  have hq : (q.num : Rat) = q * (q.den : Rat) := by grind
  have d0 : (0 : Rat) ≤ (q.den : Rat) := Rat.natCast_le_natCast.mpr (Nat.zero_le _)
  have u1 : (q.num : Rat) ≤ ((M * q.den : Nat) : Int) := by
    have h1 : 0 ≤ ((M : Rat) - q) * (q.den : Rat) := Rat.mul_nonneg (by have := h.2; grind) d0
    have e3 : (((M * q.den : Nat) : Int) : Rat) = (M : Rat) * (q.den : Rat) := by
      rw [show (((M * q.den : Nat) : Int) : Rat) = ((M * q.den : Nat) : Rat) from rfl, Rat.natCast_mul]
    rw [e3]
    grind
  have u2 : ((-((M * q.den : Nat) : Int) : Int) : Rat) ≤ (q.num : Rat) := by
    have h1 : 0 ≤ ((M : Rat) + q) * (q.den : Rat) := Rat.mul_nonneg (by have := h.1; grind) d0
    have e3 : (((M * q.den : Nat) : Int) : Rat) = (M : Rat) * (q.den : Rat) := by
      rw [show (((M * q.den : Nat) : Int) : Rat) = ((M * q.den : Nat) : Rat) from rfl, Rat.natCast_mul]
    rw [Rat.intCast_neg, e3]
    grind
  have v1 := Rat.intCast_le_intCast.mp u1
  have v2 := Rat.intCast_le_intCast.mp u2
  have : M * q.den ≤ M * D := Nat.mul_le_mul_left _ hd
  omega
theorem nat_nn (M : Nat) : (0 : Rat) ≤ (M : Rat) := Rat.natCast_le_natCast.mpr (Nat.zero_le _)
theorem Ab.mono {M N : Nat} {q : Rat} (h : Ab M q) (hM : M ≤ N) : Ab N q := by
  have := Rat.natCast_le_natCast.mpr hM
  have h1 := h.1
  have h2 := h.2
  exact ⟨by grind, by grind⟩
theorem Ab.add {M N : Nat} {a b : Rat} (ha : Ab M a) (hb : Ab N b) : Ab (M + N) (a + b) := by
  have h1 := ha.1
  have h2 := ha.2
  have h3 := hb.1
  have h4 := hb.2
  have e : ((M + N : Nat) : Rat) = (M : Rat) + (N : Rat) := Rat.natCast_add M N
  unfold Ab
  rw [e]
  exact ⟨by grind, by grind⟩
theorem Ab.mul {M N : Nat} {a b : Rat} (ha : Ab M a) (hb : Ab N b) : Ab (M * N) (a * b) := by
  have h1 := ha.1
  have h2 := ha.2
  have h3 := hb.1
  have h4 := hb.2
  have m0 := nat_nn M
  have n0 := nat_nn N
  have e : ((M * N : Nat) : Rat) = (M : Rat) * (N : Rat) := Rat.natCast_mul M N
  have p1 : 0 ≤ ((M : Rat) - a) * ((N : Rat) + b) := Rat.mul_nonneg (by grind) (by grind)
  have p2 : 0 ≤ ((M : Rat) + a) * ((N : Rat) - b) := Rat.mul_nonneg (by grind) (by grind)
  have p3 : 0 ≤ ((M : Rat) - a) * ((N : Rat) - b) := Rat.mul_nonneg (by grind) (by grind)
  have p4 : 0 ≤ ((M : Rat) + a) * ((N : Rat) + b) := Rat.mul_nonneg (by grind) (by grind)
  unfold Ab
  rw [e]
  exact ⟨by grind, by grind⟩
theorem Ab.tot {M : Nat} {g : Nat → Rat} : ∀ k, (∀ j, j < k → Ab M (g j)) → Ab (k * M) (P55.tot g k)
  | 0, _ => ⟨by simp [P55.tot], by simp [P55.tot]⟩
  | k + 1, h => by
    have := (Ab.tot k fun j hj => h j (by omega)).add (h k (by omega))
    rw [Nat.succ_mul]
    exact this
theorem sq_pos {q : Rat} (h : q ≠ 0) : 0 < q * q := by
  rcases Classical.em (0 < q) with g | g
  · exact Rat.mul_pos g g
  · have g1 := Rat.not_lt.mp g
    have g2 : 0 < -q := by grind
    have := Rat.mul_pos g2 g2
    grind
/-- what a cell reads -/
def rd (n : Nat) (f : Nat → Nat → Rat) (x : Nat → Rat) (i : Nat) : Rat := tot (fun k => f i k * x k) n
def ene (n : Nat) (f : Nat → Nat → Rat) (s x : Nat → Rat) : Rat := tot (fun c => s c * x c * (x c - rd n f x c)) n
/-- the value of cell c is a -/
def upv (x : Nat → Rat) (c : Nat) (a : Rat) : Nat → Rat := fun i => if i = c then a else x i
section
variable {n : Nat} {f : Nat → Nat → Rat} {s x : Nat → Rat} {c : Nat}
theorem rd_upv (hc : c < n) (a : Rat) (i : Nat) : rd n f (upv x c a) i = rd n f (upv x c 0) i + f i c * a := by
  unfold rd
  rw [← tot_one hc (f i c * a), ← tot_add]
  refine tot_congr n fun k hk => ?_
  unfold upv
  by_cases e : k = c
  · subst e
    simp only [if_true]
    grind
  · simp only [e, if_false]
    grind
theorem upv_self : upv x c (x c) = x := by
  funext i
  unfold upv
  by_cases e : i = c
  · rw [if_pos e, e]
  · rw [if_neg e]
theorem upv_upv (a b : Rat) : upv (upv x c a) c b = upv x c b := by
  funext i
  unfold upv
  by_cases e : i = c
  · rw [if_pos e, if_pos e]
  · rw [if_neg e, if_neg e, if_neg e]
theorem ene_one (hc : c < n) (hd : f c c = 0) (hs : ∀ i j, i < n → j < n → s i * f i j = s j * f j i) (a : Rat) :
    ene n f s (upv x c a) = tot (fun i => s i * upv x c 0 i * (upv x c 0 i - rd n f (upv x c 0) i)) n + s c * (a * a) - 2 * (s c * (a * rd n f x c)) := by
  have r0 : rd n f x c = rd n f (upv x c 0) c := by
    have := rd_upv (f := f) (x := x) hc (x c) c
    rw [upv_self, hd] at this
    rw [this]
    grind
  have hB : tot (fun i => s i * upv x c 0 i * f i c) n = s c * rd n f x c := by
    rw [r0]
    unfold rd
    rw [← tot_mul]
    refine tot_congr n fun i hi => ?_
    have := hs i c hi hc
    grind
  have e : ene n f s (upv x c a) = tot (fun i => (s i * upv x c 0 i * (upv x c 0 i - rd n f (upv x c 0) i) - a * (s i * upv x c 0 i * f i c)) + (if i = c then s c * a * (a - rd n f x c) else 0)) n := by
    unfold ene
    refine tot_congr n fun i hi => ?_
    rw [rd_upv hc a i]
    by_cases e : i = c
    · subst e
      rw [hd, ← r0, if_pos rfl]
      have h1 : upv x i a i = a := if_pos rfl
      have h2 : upv x i 0 i = 0 := if_pos rfl
      rw [h1, h2]
      grind
    · rw [if_neg e]
      have h1 : upv x c a i = x i := if_neg e
      have h2 : upv x c 0 i = x i := if_neg e
      rw [h1, h2]
      grind
  rw [e, tot_add, tot_sub, tot_mul, tot_one hc, hB]
  grind
/-- how the energy turns on one value -/
theorem ene_turn (hc : c < n) (hd : f c c = 0) (hs : ∀ i j, i < n → j < n → s i * f i j = s j * f j i) (a : Rat) :
    ene n f s (upv x c a) = ene n f s (upv x c (rd n f x c)) + s c * ((a - rd n f x c) * (a - rd n f x c)) := by
  rw [ene_one hc hd hs a, ene_one hc hd hs (rd n f x c)]
  grind
theorem ene_le (hc : c < n) (hd : f c c = 0) (hs : ∀ i j, i < n → j < n → s i * f i j = s j * f j i) (hp : 0 < s c) : ene n f s (upv x c (rd n f x c)) ≤ ene n f s x := by
  have h := ene_turn (x := x) hc hd hs (x c)
  rw [upv_self] at h
  rw [h]
  have : 0 ≤ (x c - rd n f x c) * (x c - rd n f x c) := by
    by_cases e : x c - rd n f x c = 0
    · rw [e, Rat.mul_zero]
      exact Rat.le_refl
    · exact Rat.le_of_lt (sq_pos e)
  have := Rat.mul_nonneg (Rat.le_of_lt hp) this
  grind
theorem ene_lt (hc : c < n) (hd : f c c = 0) (hs : ∀ i j, i < n → j < n → s i * f i j = s j * f j i) (hp : 0 < s c) {t : Rat} (ht : t ≠ 0) : ene n f s (upv x c (rd n f x c)) < ene n f s (upv x c (rd n f x c + t)) := by
  rw [ene_turn (x := x) hc hd hs (rd n f x c + t)]
  have e : rd n f x c + t - rd n f x c = t := by grind
  rw [e]
  have := Rat.mul_pos hp (sq_pos ht)
  grind
/-- the matrix whose form the energy is -/
def mat (f : Nat → Nat → Rat) (s : Nat → Rat) (i j : Nat) : Rat := if i = j then s i else 0 - s i * f i j
def form (n : Nat) (a : Nat → Nat → Rat) (x : Nat → Rat) : Rat := tot (fun i => tot (fun j => a i j * (x i * x j)) n) n
theorem ene_form (hd : ∀ i, i < n → f i i = 0) : ene n f s x = form n (mat f s) x := by
  unfold form ene
  refine tot_congr n fun i hi => ?_
  have e1 : tot (fun j => mat f s i j * (x i * x j)) n = tot (fun j => (s i * x i) * ((if j = i then x i else 0) - f i j * x j)) n := tot_congr n fun j hj => by
    unfold mat
    by_cases h : i = j
    · subst h
      rw [if_pos rfl, if_pos rfl, hd i hi]
      grind
    · rw [if_neg h, if_neg (Ne.symm h)]
      grind
  rw [e1, tot_mul, tot_sub, tot_one hi]
  rfl
end
end P55

set_option Elab.async false
set_option linter.all false
set_option maxRecDepth 100000
set_option maxHeartbeats 1000000
/-! energy_rows, energy told; NotEven of all others. -/
namespace P55
open PySem PySem.Spec PyProof.Rows L2 Zd
@[simp] theorem v_appL (a b : EvE) (env : Zd.Env) (μ : Store) : eAppL a b env μ = (a env μ).bind fun p => match p.1 with
  | .ref l => match llsAt p.2 l with
    | some _ => (b env p.2).bind fun q => match q.1, llsAt q.2 l with
      | .ref l', some ls => if ls.length < sizeLine then .ok (.pd .none, q.2.set l (.lls (ls ++ [l']))) else .stuck
      | _, _ => .stuck
    | none => .stuck
  | _ => .stuck := rfl
@[simp] theorem v_callX (F : FnX) (ea : EvA) (env : Zd.Env) (μ : Store) : eCallX F ea env μ = (ea env μ).bind fun p => match derefs p.2 p.1 with
  | some ps => match F ps with
    | .ok r => if (p.1.all isVal || noL r) = true then .ok (.pd r, p.2) else .stuck
    | .exc c _ _ => .exc c [] p.2
    | .stuck => .stuck
  | none => .stuck := rfl
theorem fnX_run {n m : Nat} {ev : EvS} {ps : List PyData} {μ' : Store} {env' : Zd.Env} {d : D} {r : PyData} (h : ev (startE m (ps.map .pd)) [] = .ok ((.rt d, env'), μ')) (hl : ps.length = n) (hf : frz μ' d = some r) : fnX n m ev ps = .ok r := by
  unfold fnX
  rw [if_pos hl, h]
  dsimp only
  rw [hf]
theorem fnX_exc {n m : Nat} {ev : EvS} {ps : List PyData} {μ' : Store} {c : Str} (h : ev (startE m (ps.map .pd)) [] = .exc c [] μ') (hl : ps.length = n) : fnX n m ev ps = .exc c [] [] := by
  unfold fnX
  rw [if_pos hl, h]
theorem seq_exc {a b : EvS} {env : Zd.Env} {μ μ1 : Store} {c : Str} (h : a env μ = .exc c [] μ1) : sCons a b env μ = .exc c [] μ1 := by
  unfold sCons
  rw [h]
  rfl
theorem lst_ok {a : EvE} {env : Zd.Env} {μ μ1 : Store} {ds : List PyData} (h : a env μ = .ok (.pd (.list ds), μ1)) : iLst a env μ = .ok ((ds.map .pd, []), μ1) := by
  unfold iLst
  rw [h]
  rfl
theorem zip_range (n : Nat) (g h : Nat → PyData) : (List.zipWith (fun d e => D.pd (.tuple [d, e])) ((List.range n).map g) ((List.range n).map h)) = (List.range n).map fun k => D.pd (.tuple [g k, h k]) := by
  rw [List.zipWith_map]
  apply List.ext_getElem
  · simp
  · intro k h1 h2
    simp
/-- a list of n fractions -/
def vecD (n : Nat) (g : Nat → Rat) : List PyData := (List.range n).map fun j => fr (g j)
@[simp] theorem vecD_len (n : Nat) (g : Nat → Rat) : (vecD n g).length = n := by simp [vecD]
@[simp] theorem at_vec {n : Nat} {g : Nat → Rat} {j : Nat} (hj : j < n) : atI (vecD n g) (j : Int) = some (fr (g j)) := at_range (fun j => fr (g j)) hj
theorem vecD_set {n i : Nat} {g : Nat → Rat} {q : Rat} (hi : i < n) : (vecD n g).set i (fr q) = vecD n (fun j => if j = i then q else g j) := by
  apply List.ext_getElem
  · simp
  · intro j h1 h2
    simp only [vecD, List.getElem_set, List.getElem_map, List.getElem_range]
    by_cases e : i = j
    · subst e; simp
    · simp [e, Ne.symm e]
theorem ixN_nat' {n j : Nat} (hj : j < n) : ixN n (j : Int) = some j := by
  unfold ixN
  rw [if_pos (by omega), if_pos (by omega)]
  simp
/-- rows in the store: the list of rows first, then the rows -/
def hd0 (ls : List Nat) : Cell := match ls with
  | [] => .lst []
  | l :: r => .lls (l :: r)
@[simp] theorem lls_hd (ls : List Nat) (r : Store) : llsAt (hd0 ls :: r) 0 = some ls := by
  cases ls <;> rfl
theorem hd_snoc (ls : List Nat) (l : Nat) : Cell.lls (ls ++ [l]) = hd0 (ls ++ [l]) := by
  cases ls <;> rfl
theorem frzs_of {μ : Store} {R : Nat → List PyData} : ∀ ls : List Nat, (∀ l ∈ ls, μ[l]? = some (.lst (R l))) → frzs μ ls = some (ls.map fun l => .list (R l))
  | [], _ => rfl
  | l :: r, h => by
    have ih := frzs_of (R := R) r fun x hx => h x (by simp [hx])
    simp [frzs, h l (by simp), ih]
def refs1 (m : Nat) : List Nat := (List.range m).map (· + 1)
def rowCells (n : Nat) (a : Nat → Nat → Rat) (m : Nat) : Store := (List.range m).map fun i => .lst (vecD n (a i))
@[simp] theorem refs1_len (m : Nat) : (refs1 m).length = m := by simp [refs1]
@[simp] theorem rowCells_len (n : Nat) (a : Nat → Nat → Rat) (m : Nat) : (rowCells n a m).length = m := by simp [rowCells]
def matD (n : Nat) (a : Nat → Nat → Rat) : PyData := .list ((List.range n).map fun i => .list (vecD n (a i)))
/-- an even book, its scales s; Ds, Df are common denominators -/
structure Eb (B : List (List Ru)) (s : Nat → Rat) (Ds Df : Nat) : Prop where
  W : WB B
  sg : sgl B = true
  sc : ∃ σ, scs B = some σ ∧ ∀ i, i < B.length → (σ i).getD 1 = s i
  S : Sca B.length (fac B) s
  ds : 0 < Ds
  dsb : Ds ≤ 2 ^ 575
  sfx : ∀ i, i < B.length → Fx Ds (2 ^ 690) (s i)
  df : 0 < Df
  dfb : Df ≤ 2 ^ 325
  ffx : ∀ i j, i < B.length → j < B.length → Fx Df (2 ^ 336) (fac B i j)
theorem sgl_get {B : List (List Ru)} (h : sgl B = true) {i : Nat} (hi : i < B.length) : (cel B i).length = 1 ∧ fac B i i = 0 := by
  simp only [sgl, List.all_eq_true, List.mem_range, Bool.and_eq_true, decide_eq_true_eq] at h
  exact h i hi
theorem eb_of {B : List (List Ru)} (W : WB B) {σ : Sg} (h : scs B = some σ) : ∃ Ds Df, Eb B (fun i => (σ i).getD 1) Ds Df := by
  have m5 := W.most
  have h' := h
  unfold scs at h
  by_cases sg : sgl B = true
  · rw [if_pos sg] at h
    obtain ⟨S, _⟩ := gscl_sca (gb_Fac W) h
    obtain ⟨Ds, d1, d2, d3⟩ := common (N := 2 ^ 115) (M := 2 ^ 115) Nat.one_le_two_pow B.length S.bd
    have p5 : (2 ^ 115) ^ B.length ≤ 2 ^ 575 := by
      rw [← Nat.pow_mul]
      exact Nat.pow_le_pow_right (by decide) (by omega)
    have F := gb_Fac W
    obtain ⟨Df, f1, f2, f3⟩ := common (N := 1200) (M := 6000) (by decide) (g := fun k => fac B (k / B.length) (k % B.length)) (B.length * B.length) (fun k hk => by
      have n1 := F.n1
      exact F.fb _ _ (Nat.div_lt_of_lt_mul hk) (Nat.mod_lt _ (by omega)))
    have q25 : 6000 ^ (B.length * B.length) ≤ 2 ^ 325 := by
      have a1 : B.length * B.length ≤ 25 := Nat.mul_le_mul m5 m5
      exact Nat.le_trans (Nat.pow_le_pow_left (show 6000 ≤ 2 ^ 13 by decide) _) (by
        rw [← Nat.pow_mul]
        exact Nat.pow_le_pow_right (by decide) (by omega))
    refine ⟨Ds, Df, W, sg, ⟨σ, h', fun _ _ => rfl⟩, S, d1, Nat.le_trans d2 p5, fun i hi => (d3 i hi).mono ?_, f1, Nat.le_trans f2 q25, fun i j hi hj => ?_⟩
    · exact Nat.le_trans (Nat.mul_le_mul_left _ p5) (by rw [← Nat.pow_add]; exact Nat.pow_le_pow_right (by decide) (by decide))
    · have hk : i * B.length + j < B.length * B.length := by
        have : (i + 1) * B.length ≤ B.length * B.length := Nat.mul_le_mul_right _ hi
        rw [Nat.succ_mul] at this
        omega
      have := f3 (i * B.length + j) hk
      have e1 : (i * B.length + j) / B.length = i := by
        rw [Nat.mul_comm, Nat.mul_add_div (by omega), Nat.div_eq_of_lt hj]
        rfl
      have e2 : (i * B.length + j) % B.length = j := by
        rw [Nat.mul_comm, Nat.mul_add_mod, Nat.mod_eq_of_lt hj]
      rw [e1, e2] at this
      refine this.mono (Nat.le_trans (Nat.mul_le_mul (show 1200 ≤ 2 ^ 11 by decide) q25) ?_)
      rw [← Nat.pow_add]
      exact Nat.pow_le_pow_right (by decide) (by decide)
  · rw [if_neg sg] at h
    cases h
theorem up2 {a b : Nat} (h : a ≤ b) : 2 ^ a ≤ 2 ^ b := Nat.pow_le_pow_right (by decide) h
section
variable {B : List (List Ru)} {s x : Nat → Rat} {Ds Df D N : Nat}
theorem Eb.ssm (E : Eb B s Ds Df) {i : Nat} (hi : i < B.length) : Sm (s i) := fx_sm (E.sfx i hi) E.ds (Nat.le_trans E.dsb (up2 (by decide))) (up2 (by decide))
theorem Eb.fsm (E : Eb B s Ds Df) {i j : Nat} (hi : i < B.length) (hj : j < B.length) : Sm (fac B i j) := (gb_Fac E.W).sm hi hj
theorem Eb.sf (E : Eb B s Ds Df) {i j : Nat} (hi : i < B.length) (hj : j < B.length) : Fx (Ds * Df) (2 ^ 1026) (s i * fac B i j) := by
  have := (E.sfx i hi).mul (E.ffx i j hi hj)
  rw [← Nat.pow_add] at this
  exact this
theorem Eb.dd (E : Eb B s Ds Df) : 0 < Ds * Df ∧ Ds * Df ≤ 2 ^ 900 := by
  refine ⟨Nat.mul_pos E.ds E.df, ?_⟩
  have := Nat.mul_le_mul E.dsb E.dfb
  rw [← Nat.pow_add] at this
  exact this
theorem Eb.mat_fx (E : Eb B s Ds Df) {i j : Nat} (hi : i < B.length) (hj : j < B.length) : Fx (Ds * Df) (2 ^ 1026) (mat (fac B) s i j) := by
  unfold mat
  by_cases e : i = j
  · rw [if_pos e]
    refine ((E.sfx i hi).lift Df).mono ?_
    have := Nat.mul_le_mul (Nat.le_refl (2 ^ 690)) E.dfb
    rw [← Nat.pow_add] at this
    exact Nat.le_trans this (up2 (by decide))
  · rw [if_neg e]
    have := (Fx.zero (Ds * Df) 0).sub (E.sf hi hj)
    rw [Nat.zero_add] at this
    exact this
theorem need_ok (E : Eb B s Ds Df) : F_need_scales [gbD B] = .ok (.tuple (vecD B.length s)) := by
  obtain ⟨σ, h1, h2⟩ := E.sc
  have h := (scales_any E.W).1
  rw [h1] at h
  have e : scD B.length (some σ) = .tuple (vecD B.length s) := by
    show PyData.tuple ((List.range B.length).map fun i => fr ((σ i).getD 1)) = PyData.tuple ((List.range B.length).map fun j => fr (s j))
    congr 1
    apply List.map_congr_left
    intro i hi
    simp at hi
    rw [h2 i hi]
  rw [e] at h
  have hn : isNoneB (.tuple (vecD B.length s)) = false := rfl
  unfold F_need_scales fnX ev_need_scales
  simp [h, bindT, hn, frz]
theorem need_not (W : WB B) (h0 : scs B = none) : F_need_scales [gbD B] = .exc "NotEven" [] [] := by
  have h := (scales_any W).1
  rw [h0] at h
  have e : scD B.length none = .none := rfl
  rw [e] at h
  have hn : isNoneB .none = true := rfl
  unfold F_need_scales fnX ev_need_scales
  simp [h, bindT, hn, sRaise]
theorem rows_step (E : Eb B s Ds Df) {i : Nat} (hi : i < B.length) :
    p_energy_rows_1_b [some (.pd (gbD B)), some (.ref 0), some (.pd (.int (i : Int))), some (.pd (fr (s i))), none, none] (hd0 (refs1 i) :: rowCells B.length (mat (fac B) s) i) =
      .ok ((.nx, [some (.pd (gbD B)), some (.ref 0), none, none, none, none]), hd0 (refs1 (i + 1)) :: rowCells B.length (mat (fac B) s) (i + 1)) := by
  have n5 := E.W.most
  obtain ⟨r, rest, k1, k2, k3⟩ := cel_cons E.W hi
  have er := ru_row E.W hi
  rw [k2] at er
  have smi := E.ssm hi
  obtain ⟨dd1, dd2⟩ := E.dd
  have c1 := comp_mapA (g := []) (T := .nm 5) (μ := hd0 (refs1 i) :: rowCells B.length (mat (fac B) s) i) (elt := eCallP F_less (aCons (eC ZEROd) (aCons (eCallP F_times (aCons (eVar 3) (aCons (eVar 5) aNil))) aNil)))
    (env := wipeE [some (.pd (gbD B)), some (.ref 0), some (.pd (.int (i : Int))), some (.pd (fr (s i))), none, none] [5]) held_nil (fun j => Zd.D.pd (fr (fac B i j))) (fun j => Zd.D.pd (fr (0 - s i * fac B i j))) (List.range B.length) (fun j hj => by
      simp at hj
      have smp : Sm (s i * fac B i j) := fx_sm (E.sf hi hj) dd1 (Nat.le_trans dd2 (up2 (by decide))) (up2 (by decide))
      have e1 := F_times_ok smi (E.fsm hi hj)
      have e2 := F_less_ok sm0 smp
      exact ⟨[some (.pd (gbD B)), some (.ref 0), some (.pd (.int (i : Int))), some (.pd (fr (s i))), none, some (.pd (fr (fac B i j)))], by simp [bindT, wipeE], by simp [e1, zero_fr, e2]⟩)
  have i1 := tp_ok (a := eIx (eIx (eIx (eVar 0) (eVar 2)) (eC (.int 0))) (eC (.int 1))) (env := [some (.pd (gbD B)), some (.ref 0), some (.pd (.int (i : Int))), some (.pd (fr (s i))), none, none]) (μ := hd0 (refs1 i) :: rowCells B.length (mat (fac B) s) i) (μ1 := hd0 (refs1 i) :: rowCells B.length (mat (fac B) s) i)
    (ds := vecD B.length (fac B i)) (by simp [hi, k1, ce_at0, ru_at1, er]; rfl)
  unfold vecD at i1
  rw [List.map_map] at i1
  have l1 := lcD_eq (vs := [5]) i1 (by rw [List.length_map, List.length_range]; exact sizeLine_ge (by omega)) c1
  have s0 : p_energy_rows_1_b_0 [some (.pd (gbD B)), some (.ref 0), some (.pd (.int (i : Int))), some (.pd (fr (s i))), none, none] (hd0 (refs1 i) :: rowCells B.length (mat (fac B) s) i) =
      .ok ((.nx, [some (.pd (gbD B)), some (.ref 0), some (.pd (.int (i : Int))), some (.pd (fr (s i))), some (.ref (i + 1)), none]), hd0 (refs1 i) :: (rowCells B.length (mat (fac B) s) i ++ [.lst (vecD B.length fun j => 0 - s i * fac B i j)])) := by
    unfold p_energy_rows_1_b_0
    rw [v_set, v_own, v_asF, l1]
    simp [bindT, vecD]
  have hset : (vecD B.length fun j => 0 - s i * fac B i j).set i (fr (s i)) = vecD B.length (mat (fac B) s i) := by
    rw [vecD_set hi]
    unfold vecD
    apply List.map_congr_left
    intro j hj
    unfold mat
    by_cases e : j = i
    · subst e; simp
    · simp [e, Ne.symm e]
  have hget : (rowCells B.length (mat (fac B) s) i ++ [Cell.lst (vecD B.length fun j => 0 - s i * fac B i j)])[i]? = some (.lst (vecD B.length fun j => 0 - s i * fac B i j)) := by
    have := get_app0 (rowCells B.length (mat (fac B) s) i) (.lst (vecD B.length fun j => 0 - s i * fac B i j)) []
    rw [rowCells_len] at this
    exact this
  have hst : ∀ z, (rowCells B.length (mat (fac B) s) i ++ [Cell.lst (vecD B.length fun j => 0 - s i * fac B i j)]).set i z = rowCells B.length (mat (fac B) s) i ++ [z] := fun z => by
    have := set_app0 (rowCells B.length (mat (fac B) s) i) (.lst (vecD B.length fun j => 0 - s i * fac B i j)) z []
    rw [rowCells_len] at this
    exact this
  have s1 : p_energy_rows_1_b_1 [some (.pd (gbD B)), some (.ref 0), some (.pd (.int (i : Int))), some (.pd (fr (s i))), some (.ref (i + 1)), none] (hd0 (refs1 i) :: (rowCells B.length (mat (fac B) s) i ++ [.lst (vecD B.length fun j => 0 - s i * fac B i j)])) =
      .ok ((.nx, [some (.pd (gbD B)), some (.ref 0), some (.pd (.int (i : Int))), some (.pd (fr (s i))), some (.ref (i + 1)), none]), hd0 (refs1 i) :: rowCells B.length (mat (fac B) s) (i + 1)) := by
    have hrc : rowCells B.length (mat (fac B) s) (i + 1) = rowCells B.length (mat (fac B) s) i ++ [.lst (vecD B.length (mat (fac B) s i))] := by
      unfold rowCells
      rw [List.range_succ, List.map_append]
      rfl
    rw [hrc]
    simp [p_energy_rows_1_b_1, hget, ixN_nat' hi, hset, hst]
  have s2 : p_energy_rows_1_b_2 [some (.pd (gbD B)), some (.ref 0), some (.pd (.int (i : Int))), some (.pd (fr (s i))), some (.ref (i + 1)), none] (hd0 (refs1 i) :: rowCells B.length (mat (fac B) s) (i + 1)) =
      .ok ((.nx, [some (.pd (gbD B)), some (.ref 0), some (.pd (.int (i : Int))), some (.pd (fr (s i))), some (.ref (i + 1)), none]), hd0 (refs1 (i + 1)) :: rowCells B.length (mat (fac B) s) (i + 1)) := by
    have hl : i < sizeLine := small1000 (by omega)
    have hrf : refs1 (i + 1) = refs1 i ++ [i + 1] := by
      unfold refs1
      rw [List.range_succ, List.map_append]
      rfl
    rw [hrf]
    simp [p_energy_rows_1_b_2, hl, hd_snoc]
  unfold p_energy_rows_1_b
  rw [v_forget, seq_nx s0, seq_nx s1, s2]
  rfl
theorem energy_rows_ok (E : Eb B s Ds Df) : F_energy_rows [gbD B] = .ok (matD B.length (mat (fac B) s)) := by
  have n5 := E.W.most
  have nd := need_ok E
  have s0 : p_energy_rows_0 [some (.pd (gbD B)), none, none, none, none, none] [] = .ok ((.nx, [some (.pd (gbD B)), some (.ref 0), none, none, none, none]), [.lst []]) := by
    simp [p_energy_rows_0, bindT]
  obtain ⟨env', μ', h1, rfl, rfl⟩ := for_rel (T := .tp [(.nm 2), (.nm 3)]) (b := p_energy_rows_1_b) (ei := iEn (eCallX F_need_scales (aCons (eVar 0) aNil)))
    (env := [some (.pd (gbD B)), some (.ref 0), none, none, none, none]) (μ := [.lst []]) (μ1 := [.lst []])
    (fun i env μ => env = [some (.pd (gbD B)), some (.ref 0), none, none, none, none] ∧ μ = hd0 (refs1 i) :: rowCells B.length (mat (fac B) s) i)
    (en_ok (n := B.length) (fun i => fr (s i)) (by simp [nd, isVal]; rfl)) ⟨rfl, rfl⟩ (fun _ _ _ _ => held_nil) (fun j d env μ hd hp => by
      obtain ⟨rfl, rfl⟩ := hp
      simp only [List.getElem?_map, Option.map_eq_some_iff] at hd
      obtain ⟨j', hj, rfl⟩ := hd
      obtain ⟨hj1, hj2⟩ := List.getElem?_eq_some_iff.mp hj
      simp at hj1 hj2
      subst hj2
      exact ⟨[some (.pd (gbD B)), some (.ref 0), some (.pd (.int (j : Int))), some (.pd (fr (s j))), none, none], _, _, by simp [bindT, bindTs], .inl (rows_step E hj1), rfl, rfl⟩)
  rw [List.length_map, List.length_range] at h1
  have hn1 := E.W.pos
  obtain ⟨m, hm⟩ : ∃ m, B.length = m + 1 := ⟨B.length - 1, by omega⟩
  have hfr : frz (hd0 (refs1 B.length) :: rowCells B.length (mat (fac B) s) B.length) (.ref 0) = some (matD B.length (mat (fac B) s)) := by
    have hc : hd0 (refs1 B.length) = .lls (refs1 B.length) := by
      rw [hm]
      unfold refs1
      rw [List.range_succ_eq_map]
      rfl
    have hf := frzs_of (μ := hd0 (refs1 B.length) :: rowCells B.length (mat (fac B) s) B.length) (R := fun l => vecD B.length (mat (fac B) s (l - 1))) (refs1 B.length) (fun l hl => by
      obtain ⟨i, hi, rfl⟩ := List.mem_map.mp hl
      simp at hi
      simp [rowCells, hi])
    rw [hc] at hf ⊢
    simp only [frz, List.getElem?_cons_zero]
    rw [hf]
    simp [matD, refs1, List.map_map, Function.comp_def]
  exact fnX_run ((congrFun (congrFun parts_energy_rows _) _).trans ((seq_nx s0).trans ((seq_nx h1).trans (show p_energy_rows_2 _ _ = _ from by simp [p_energy_rows_2]; rfl)))) rfl hfr
theorem energy_rows_not (W : WB B) (h0 : scs B = none) : F_energy_rows [gbD B] = .exc "NotEven" [] [] := by
  have nd := need_not W h0
  have s0 : p_energy_rows_0 [some (.pd (gbD B)), none, none, none, none, none] [] = .ok ((.nx, [some (.pd (gbD B)), some (.ref 0), none, none, none, none]), [.lst []]) := by
    simp [p_energy_rows_0, bindT]
  have s1 : p_energy_rows_1 [some (.pd (gbD B)), some (.ref 0), none, none, none, none] [.lst []] = .exc "NotEven" [] [.lst []] := by
    simp [p_energy_rows_1, sFor, iEn, nd, Out.bind]
  exact fnX_exc ((congrFun (congrFun parts_energy_rows _) _).trans ((seq_nx s0).trans (seq_exc s1))) rfl
theorem energy_not (W : WB B) (h0 : scs B = none) (v : PyData) : F_energy [gbD B, v] = .exc "NotEven" [] [] := by
  have nd := energy_rows_not W h0
  have s0 : p_energy_0 [some (.pd (gbD B)), some (.pd v), none, none, none, none, none] [] = .ok ((.nx, [some (.pd (gbD B)), some (.pd v), some (.pd (fr 0)), none, none, none, none]), []) := by
    simp [p_energy_0, bindT, zero_fr]
  have s1 : p_energy_1 [some (.pd (gbD B)), some (.pd v), some (.pd (fr 0)), none, none, none, none] [] = .exc "NotEven" [] [] := by
    simp [p_energy_1, sFor, iZp, nd, Out.bind]
  exact fnX_exc ((congrFun (congrFun parts_energy _) _).trans ((seq_nx s0).trans (seq_exc s1))) rfl
theorem squares_not (W : WB B) (h0 : scs B = none) : F_squares_of [gbD B] = .exc "NotEven" [] [] := by
  have nd := energy_rows_not W h0
  have s0 : p_squares_of_0 [some (.pd (gbD B)), none] [] = .exc "NotEven" [] [] := by
    simp [p_squares_of_0, nd, Out.bind]
  exact fnX_exc ((congrFun (congrFun parts_squares_of _) _).trans (seq_exc s0)) rfl
theorem low_not (W : WB B) (h0 : scs B = none) : F_low_values [gbD B] = .exc "NotEven" [] [] := by
  have nd := energy_rows_not W h0
  have s0 : ∀ r, p_low_values_0 (some (.pd (gbD B)) :: r) [] = .exc "NotEven" [] [] := fun r => by
    simp [p_low_values_0, nd, Out.bind]
  exact fnX_exc ((congrFun (congrFun parts_low_values _) _).trans (seq_exc (s0 _))) rfl
end
end P55

set_option Elab.async false
set_option linter.all false
set_option maxRecDepth 100000
set_option maxHeartbeats 1000000
/-! energy told; the law's value, total, energy told. -/
namespace P55
open PySem PySem.Spec PyProof.Rows L2 Zd
def lsu : List Rat → Rat
  | [] => 0
  | q :: r => q + lsu r
theorem lsu_app : ∀ (l m : List Rat), lsu (l ++ m) = lsu l + lsu m
  | [], m => by show lsu m = 0 + lsu m; grind
  | q :: r, m => by
    show q + lsu (r ++ m) = q + lsu r + lsu m
    rw [lsu_app r m]
    grind
theorem tot_cons (q : Rat) (h : Nat → Rat) : ∀ k, tot (fun j => match j with | 0 => q | j + 1 => h j) (k + 1) = q + tot h k
  | 0 => by show (0 : Rat) + q = q + 0; grind
  | k + 1 => by
    show tot _ (k + 1) + h k = q + (tot h k + h k)
    rw [tot_cons q h k]
    grind
theorem lsu_tot : ∀ l : List Rat, tot (fun j => l.getD j 0) l.length = lsu l
  | [] => rfl
  | q :: r => by
    have h := tot_cons q (fun j => r.getD j 0) r.length
    rw [lsu_tot r] at h
    show tot (fun j => (q :: r).getD j 0) (r.length + 1) = q + lsu r
    rw [← h]
    exact tot_congr _ fun j _ => by cases j <;> rfl
theorem lsu_filter {g : Nat → Rat} {p : Nat → Bool} : ∀ n, (∀ k, k < n → p k = false → g k = 0) → lsu (((List.range n).filter p).map g) = tot g n
  | 0, _ => rfl
  | n + 1, h => by
    rw [List.range_succ, List.filter_append, List.map_append, lsu_app, lsu_filter n fun k hk => h k (by omega)]
    show _ = tot g n + g n
    congr 1
    by_cases hp : p n = true
    · rw [List.filter_cons_of_pos hp]
      show g n + lsu [] = g n
      show g n + 0 = g n
      grind
    · rw [List.filter_cons_of_neg (by simpa using hp), h n (by omega) (by simpa using hp)]
      rfl
theorem law_total_ok {k : Nat} {g : Nat → Rat} (hs : ∀ j, j < k → Sm (g j)) (ht : ∀ j, j ≤ k → Sm (tot g j)) : F__law_total [.list ((List.range k).map fun j => fr (g j))] = .ok (fr (tot g k)) := by
  have s0 : p_law_total_0 [some (.pd (.list ((List.range k).map fun j => fr (g j)))), none, none] [] = .ok ((.nx, [some (.pd (.list ((List.range k).map fun j => fr (g j)))), some (.pd (fr 0)), none]), []) := by
    have hz : PyData.tuple [.int 0, .int 1] = fr 0 := rfl
    simp [p_law_total_0, bindT, hz, sizeLine_ge]
  have i1 := lst_ok (a := eVar 0) (env := [some (.pd (.list ((List.range k).map fun j => fr (g j)))), some (.pd (fr 0)), none]) (μ := []) (μ1 := []) (ds := (List.range k).map fun j => fr (g j)) rfl
  rw [List.map_map] at i1
  obtain ⟨env', μ', q1, rfl, rfl⟩ := for_rel (T := .nm 2) (b := p_law_total_1_bx) (fun j env μ => env = [some (.pd (.list ((List.range k).map fun j => fr (g j)))), some (.pd (fr (tot g j))), none] ∧ μ = []) i1 ⟨rfl, rfl⟩ (fun _ _ _ _ => held_nil) (fun j d env μ hd hp => by
    obtain ⟨rfl, rfl⟩ := hp
    simp only [List.getElem?_map, Option.map_eq_some_iff] at hd
    obtain ⟨j', hj, rfl⟩ := hd
    obtain ⟨hj1, hj2⟩ := List.getElem?_eq_some_iff.mp hj
    simp at hj1 hj2
    subst hj2
    have e1 := L_plus_ok (ht j (by omega)) (hs j hj1)
    have e2 : tot g (j + 1) = tot g j + g j := rfl
    exact ⟨[some (.pd (.list ((List.range k).map fun j => fr (g j)))), some (.pd (fr (tot g j))), some (.pd (fr (g j)))], _, _, by simp [bindT], .inl (by simp [p_law_total_1_bx, p_law_total_1_b, e1, bindT, wipeE]; rfl), by rw [e2], rfl⟩)
  rw [List.length_map, List.length_range] at q1
  have s2 : p_law_total_2 [some (.pd (.list ((List.range k).map fun j => fr (g j)))), some (.pd (fr (tot g k))), none] [] = .ok ((.rt (.pd (fr (tot g k))), [some (.pd (.list ((List.range k).map fun j => fr (g j)))), some (.pd (fr (tot g k))), none]), []) := by
    simp [p_law_total_2]
  exact fnP_run ((congrFun (congrFun parts_law_total _) _).trans ((seq_nx s0).trans ((seq_nx q1).trans s2))) rfl rfl
theorem law_total_list {l : List Rat} {D N : Nat} (d1 : 0 < D) (d2 : D ≤ 2 ^ 3000) (d3 : 8 * N ≤ 2 ^ 3000) (hl : l.length ≤ 8) (h : ∀ q ∈ l, Fx D N q) : F__law_total [.list (l.map fr)] = .ok (fr (lsu l)) := by
  have hg : ∀ j, j < l.length → Fx D N (l.getD j 0) := fun j hj => by
    rw [List.getD_eq_getElem?_getD, List.getElem?_eq_getElem hj]
    exact h _ (List.getElem_mem hj)
  have ht := law_total_ok (k := l.length) (g := fun j => l.getD j 0) (fun j hj => fx_sm (hg j hj) d1 d2 (by omega)) (fun j hj => fx_sm (Fx.tot j fun i hi => hg i (by omega)) d1 d2 (Nat.le_trans (Nat.mul_le_mul (show j ≤ 8 by omega) (Nat.le_refl _)) d3))
  rw [lsu_tot] at ht
  rw [← ht]
  congr 3
  apply List.ext_getElem
  · simp
  · intro i h1 h2
    simp at h1
    simp [h1]
/-- what has been added up behind i rows, j places -/
def upto (n : Nat) (a : Nat → Nat → Rat) (x : Nat → Rat) (i j : Nat) : Rat := tot (fun i => tot (fun j => a i j * (x i * x j)) n) i + tot (fun j => a i j * (x i * x j)) j
theorem upto_end {n : Nat} {x : Nat → Rat} (a : Nat → Nat → Rat) (i : Nat) : upto n a x i n = upto n a x (i + 1) 0 := by
  unfold upto
  show tot _ i + tot _ n = (tot _ i + tot _ n) + 0
  grind
/-- values with a common denominator -/
structure Xs (n D N : Nat) (x : Nat → Rat) : Prop where
  fx : ∀ i, i < n → Fx D N (x i)
  d1 : 0 < D
  d2 : D ≤ 2 ^ 70
  d3 : N ≤ 2 ^ 151
section
variable {B : List (List Ru)} {s x : Nat → Rat} {Ds Df D N n : Nat}
theorem Xs.sm (X : Xs n D N x) {i : Nat} (hi : i < n) : Sm (x i) := fx_sm (X.fx i hi) X.d1 (Nat.le_trans X.d2 (up2 (by decide))) (Nat.le_trans X.d3 (up2 (by decide)))
theorem Xs.nn (X : Xs n D N x) : N * N ≤ 2 ^ 302 := by
  have := Nat.mul_le_mul X.d3 X.d3
  rw [← Nat.pow_add] at this
  exact this
theorem Xs.dd (X : Xs n D N x) : 0 < D * D ∧ D * D ≤ 2 ^ 140 := by
  refine ⟨Nat.mul_pos X.d1 X.d1, ?_⟩
  have := Nat.mul_le_mul X.d2 X.d2
  rw [← Nat.pow_add] at this
  exact this
theorem term_fx (E : Eb B s Ds Df) (X : Xs B.length D N x) {i j : Nat} (hi : i < B.length) (hj : j < B.length) : Fx (Ds * Df * (D * D)) (2 ^ 1328) (mat (fac B) s i j * (x i * x j)) := by
  refine ((E.mat_fx hi hj).mul ((X.fx i hi).mul (X.fx j hj))).mono ?_
  have := Nat.mul_le_mul (Nat.le_refl (2 ^ 1026)) X.nn
  rw [← Nat.pow_add] at this
  exact this
theorem upto_fx (E : Eb B s Ds Df) (X : Xs B.length D N x) {i j : Nat} (hi : i < B.length) (hj : j ≤ B.length) : Fx (Ds * Df * (D * D)) (2 ^ 1333) (upto B.length (mat (fac B) s) x i j) := by
  have n5 := E.W.most
  have h1 := Fx.tot (D := Ds * Df * (D * D)) (N := B.length * 2 ^ 1328) (g := fun i => tot (fun j => mat (fac B) s i j * (x i * x j)) B.length) i (fun i' hi' => Fx.tot B.length fun j hj => term_fx E X (by omega) hj)
  have h2 := Fx.tot (D := Ds * Df * (D * D)) (N := 2 ^ 1328) (g := fun j => mat (fac B) s i j * (x i * x j)) j (fun j' hj' => term_fx E X hi (by omega))
  refine (h1.add h2).mono ?_
  have a1 : i * (B.length * 2 ^ 1328) ≤ 5 * (5 * 2 ^ 1328) := Nat.mul_le_mul (by omega) (Nat.mul_le_mul n5 (Nat.le_refl _))
  have a2 : j * 2 ^ 1328 ≤ 5 * 2 ^ 1328 := Nat.mul_le_mul (by omega) (Nat.le_refl _)
  have e : 2 ^ 1333 = 32 * 2 ^ 1328 := by rw [show 1333 = 5 + 1328 from rfl, Nat.pow_add]
  rw [e]
  omega
theorem energy_ok (E : Eb B s Ds Df) (X : Xs B.length D N x) : F_energy [gbD B, .tuple (vecD B.length x)] = .ok (fr (ene B.length (fac B) s x)) := by
  have n5 := E.W.most
  have er := energy_rows_ok E
  obtain ⟨dd1, dd2⟩ := E.dd
  obtain ⟨xd1, xd2⟩ := X.dd
  have D1 : 0 < Ds * Df * (D * D) := Nat.mul_pos dd1 xd1
  have D2 : Ds * Df * (D * D) ≤ 2 ^ 1040 := by
    have := Nat.mul_le_mul dd2 xd2
    rw [← Nat.pow_add] at this
    exact this
  have s2 : ∀ {q : Rat}, Fx (Ds * Df * (D * D)) (2 ^ 1333) q → Sm q := fun h => fx_sm h D1 (Nat.le_trans D2 (up2 (by decide))) (up2 (by decide))
  have sx : ∀ i, i < B.length → Sm (x i) := fun i hi => X.sm hi
  have sm : ∀ i j, i < B.length → j < B.length → Sm (mat (fac B) s i j) := fun i j hi hj => fx_sm (E.mat_fx hi hj) dd1 (Nat.le_trans dd2 (up2 (by decide))) (up2 (by decide))
  have sxx : ∀ i j, i < B.length → j < B.length → Sm (x i * x j) := fun i j hi hj => fx_sm ((X.fx i hi).mul (X.fx j hj)) xd1 (Nat.le_trans xd2 (up2 (by decide))) (Nat.le_trans X.nn (up2 (by decide)))
  have s0 : p_energy_0 [some (.pd (gbD B)), some (.pd (.tuple (vecD B.length x))), none, none, none, none, none] [] = .ok ((.nx, [some (.pd (gbD B)), some (.pd (.tuple (vecD B.length x))), some (.pd (fr 0)), none, none, none, none]), []) := by
    simp [p_energy_0, bindT, zero_fr]
  have i1 : iZp (eCallX F_energy_rows (aCons (eVar 0) aNil)) (eVar 1) [some (.pd (gbD B)), some (.pd (.tuple (vecD B.length x))), some (.pd (fr 0)), none, none, none, none] [] =
      .ok ((((List.range B.length).map fun i => Zd.D.pd (.tuple [.list (vecD B.length (mat (fac B) s i)), fr (x i)])), [] ++ []), []) := by
    have z := zip_range B.length (fun i => .list (vecD B.length (mat (fac B) s i))) (fun i => fr (x i))
    simp [iZp, er, matD, srcA, srcL, vecD, isVal] at z ⊢
  have inner : ∀ i, i < B.length → ∃ env', p_energy_1_b [some (.pd (gbD B)), some (.pd (.tuple (vecD B.length x))), some (.pd (fr (upto B.length (mat (fac B) s) x i 0))), some (.pd (.list (vecD B.length (mat (fac B) s i)))), some (.pd (fr (x i))), none, none] [] =
      .ok ((.nx, env'), []) ∧ env' = [some (.pd (gbD B)), some (.pd (.tuple (vecD B.length x))), some (.pd (fr (upto B.length (mat (fac B) s) x i B.length))), some (.pd (.list (vecD B.length (mat (fac B) s i)))), some (.pd (fr (x i))), none, none] := fun i hi => by
    have i2 : iZp (eVar 3) (eVar 1) [some (.pd (gbD B)), some (.pd (.tuple (vecD B.length x))), some (.pd (fr (upto B.length (mat (fac B) s) x i 0))), some (.pd (.list (vecD B.length (mat (fac B) s i)))), some (.pd (fr (x i))), none, none] [] =
        .ok ((((List.range B.length).map fun j => Zd.D.pd (.tuple [fr (mat (fac B) s i j), fr (x j)])), [] ++ []), []) := by
      have z := zip_range B.length (fun j => fr (mat (fac B) s i j)) (fun j => fr (x j))
      simp [iZp, srcA, srcL, vecD] at z ⊢
    obtain ⟨env', μ', q1, rfl, rfl⟩ := for_rel (T := .tp [(.nm 5), (.nm 6)]) (b := p_energy_1_b_bx) (fun j env μ => env = [some (.pd (gbD B)), some (.pd (.tuple (vecD B.length x))), some (.pd (fr (upto B.length (mat (fac B) s) x i j))), some (.pd (.list (vecD B.length (mat (fac B) s i)))), some (.pd (fr (x i))), none, none] ∧ μ = []) i2 ⟨rfl, rfl⟩ (fun _ _ _ _ => held_nil) (fun j d env μ hd hp => by
      obtain ⟨rfl, rfl⟩ := hp
      simp only [List.getElem?_map, Option.map_eq_some_iff] at hd
      obtain ⟨j', hj, rfl⟩ := hd
      obtain ⟨hj1, hj2⟩ := List.getElem?_eq_some_iff.mp hj
      simp at hj1 hj2
      subst hj2
      have e1 := F_times_ok (sx i hi) (sx j hj1)
      have e2 := F_times_ok (sm i j hi hj1) (sxx i j hi hj1)
      have e3 := F_plus_ok (s2 (upto_fx E X hi (show j ≤ B.length by omega))) (s2 ((term_fx E X hi hj1).mono (up2 (by decide))))
      have e4 : upto B.length (mat (fac B) s) x i (j + 1) = upto B.length (mat (fac B) s) x i j + mat (fac B) s i j * (x i * x j) := by
        unfold upto
        show _ + (tot _ j + _) = _
        grind
      refine ⟨[some (.pd (gbD B)), some (.pd (.tuple (vecD B.length x))), some (.pd (fr (upto B.length (mat (fac B) s) x i j))), some (.pd (.list (vecD B.length (mat (fac B) s i)))), some (.pd (fr (x i))), some (.pd (fr (mat (fac B) s i j))), some (.pd (fr (x j)))], _, _, by simp [bindT, bindTs], .inl (by simp [p_energy_1_b_bx, p_energy_1_b_b, e1, e2, e3, bindT, wipeE]; rfl), by rw [e4], rfl⟩)
    rw [List.length_map, List.length_range] at q1
    exact ⟨_, q1, rfl⟩
  obtain ⟨env', μ', q1, rfl, rfl⟩ := for_rel (T := .tp [(.nm 3), (.nm 4)]) (b := p_energy_1_bx) (fun i env μ => env = [some (.pd (gbD B)), some (.pd (.tuple (vecD B.length x))), some (.pd (fr (upto B.length (mat (fac B) s) x i 0))), none, none, none, none] ∧ μ = []) i1 ⟨by
      have : upto B.length (mat (fac B) s) x 0 0 = 0 := by
        unfold upto
        show (0 : Rat) + 0 = 0
        grind
      rw [this], rfl⟩ (fun _ _ _ _ => held_nil) (fun i d env μ hd hp => by
    obtain ⟨rfl, rfl⟩ := hp
    simp only [List.getElem?_map, Option.map_eq_some_iff] at hd
    obtain ⟨j', hj, rfl⟩ := hd
    obtain ⟨hj1, hj2⟩ := List.getElem?_eq_some_iff.mp hj
    simp at hj1 hj2
    subst hj2
    obtain ⟨env', r1, rfl⟩ := inner i hj1
    refine ⟨[some (.pd (gbD B)), some (.pd (.tuple (vecD B.length x))), some (.pd (fr (upto B.length (mat (fac B) s) x i 0))), some (.pd (.list (vecD B.length (mat (fac B) s i)))), some (.pd (fr (x i))), none, none], [some (.pd (gbD B)), some (.pd (.tuple (vecD B.length x))), some (.pd (fr (upto B.length (mat (fac B) s) x i B.length))), none, none, none, none], [], by simp [bindT, bindTs], .inl ?_, by rw [upto_end], rfl⟩
    unfold p_energy_1_bx
    rw [v_forget, r1]
    rfl)
  rw [List.length_map, List.length_range] at q1
  have e : upto B.length (mat (fac B) s) x B.length 0 = ene B.length (fac B) s x := by
    rw [ene_form fun i hi => (sgl_get E.sg hi).2]
    unfold upto form
    show _ + 0 = _
    grind
  rw [e] at q1
  have s3 : p_energy_2 [some (.pd (gbD B)), some (.pd (.tuple (vecD B.length x))), some (.pd (fr (ene B.length (fac B) s x))), none, none, none, none] [] = .ok ((.rt (.pd (fr (ene B.length (fac B) s x))), [some (.pd (gbD B)), some (.pd (.tuple (vecD B.length x))), some (.pd (fr (ene B.length (fac B) s x))), none, none, none, none]), []) := by
    simp [p_energy_2]
  exact fnX_run ((congrFun (congrFun parts_energy _) _).trans ((seq_nx s0).trans ((seq_nx q1).trans s3))) rfl rfl
theorem fx_fx (E : Eb B s Ds Df) (X : Xs B.length D N x) {i k : Nat} (hi : i < B.length) (hk : k < B.length) : Fx (Df * D) (2 ^ 487) (fac B i k * x k) := by
  refine ((E.ffx i k hi hk).mul (X.fx k hk)).mono ?_
  have := Nat.mul_le_mul (Nat.le_refl (2 ^ 336)) X.d3
  rw [← Nat.pow_add] at this
  exact this
theorem fd (E : Eb B s Ds Df) (X : Xs B.length D N x) : 0 < Df * D ∧ Df * D ≤ 2 ^ 395 := by
  refine ⟨Nat.mul_pos E.df X.d1, ?_⟩
  have := Nat.mul_le_mul E.dfb X.d2
  rw [← Nat.pow_add] at this
  exact this
theorem rd_fx (E : Eb B s Ds Df) (X : Xs B.length D N x) {i : Nat} (hi : i < B.length) : Fx (Df * D) (2 ^ 490) (rd B.length (fac B) x i) := by
  have n5 := E.W.most
  have := Fx.tot (D := Df * D) (N := 2 ^ 487) (g := fun k => fac B i k * x k) B.length fun k hk => fx_fx E X hi hk
  refine this.mono ?_
  have e : 2 ^ 490 = 8 * 2 ^ 487 := by rw [show 490 = 3 + 487 from rfl, Nat.pow_add]
  rw [e]
  exact Nat.mul_le_mul (by omega) (Nat.le_refl _)
theorem rd_sm (E : Eb B s Ds Df) (X : Xs B.length D N x) {i : Nat} (hi : i < B.length) : Sm (rd B.length (fac B) x i) := fx_sm (rd_fx E X hi) (fd E X).1 (Nat.le_trans (fd E X).2 (up2 (by decide))) (up2 (by decide))
theorem value_ok (E : Eb B s Ds Df) (X : Xs B.length D N x) {i : Nat} (hi : i < B.length) : F__law_value [.tuple [.tuple [.int 0, .int 1], rowD B.length (fac B) i], .tuple (vecD B.length x)] = .ok (fr (rd B.length (fac B) x i)) := by
  have n5 := E.W.most
  obtain ⟨q1, q2⟩ := fd E X
  have sx : ∀ k, k < B.length → Sm (x k) := fun k hk => X.sm hk
  have sf : ∀ k, k < B.length → Sm (fac B i k) := fun k hk => E.fsm hi hk
  have tl := law_total_list (l := 0 :: ((List.range B.length).filter fun k => !decide (fac B i k = 0)).map fun k => fac B i k * x k) (D := Df * D) (N := 2 ^ 487) q1 (Nat.le_trans q2 (up2 (by decide))) (by rw [show 8 = 2 ^ 3 from rfl, ← Nat.pow_add]; exact up2 (by decide)) (by
    have := List.length_filter_le (fun k => !decide (fac B i k = 0)) (List.range B.length)
    simp at this ⊢
    omega) (fun q hq => by
      rcases List.mem_cons.mp hq with rfl | hq
      · exact Fx.zero _ _
      · obtain ⟨k, hk, rfl⟩ := List.mem_map.mp hq
        simp at hk
        exact fx_fx E X hi hk.1)
  have es : lsu (0 :: ((List.range B.length).filter fun k => !decide (fac B i k = 0)).map fun k => fac B i k * x k) = rd B.length (fac B) x i := by
    show 0 + lsu _ = _
    rw [lsu_filter B.length fun k hk hz => by
      have : fac B i k = 0 := by
        simp at hz
        exact hz
      rw [this]
      grind]
    unfold rd
    grind
  rw [es] at tl
  have c1 := comp_filA (g := []) (T := .tp [.nm 2, .nm 3]) (μ := []) (tst := eTst (eOp2 fNe (eIx (eVar 2) (eC (.int 0))) (eC (.int 0)))) (elt := eCallP F__law_by (aCons (eVar 2) (aCons (eVar 3) aNil)))
    (env := wipeE [some (.pd (.tuple [.tuple [.int 0, .int 1], rowD B.length (fac B) i])), some (.pd (.tuple (vecD B.length x))), none, none] [2, 3]) held_nil (fun k => Zd.D.pd (.tuple [fr (fac B i k), fr (x k)])) (fun k => Zd.D.pd (fr (fac B i k * x k))) (fun k => !decide (fac B i k = 0)) (List.range B.length) (fun k hk => by
      simp at hk
      have e1 := L_by_ok (sf k hk) (sx k hk)
      exact ⟨[some (.pd (.tuple [.tuple [.int 0, .int 1], rowD B.length (fac B) i])), some (.pd (.tuple (vecD B.length x))), some (.pd (fr (fac B i k))), some (.pd (fr (x k)))], by simp [bindT, bindTs, wipeE], by simp, fun _ => by simp [e1]⟩)
  have i1 : iZp (eIx (eVar 0) (eC (.int 1))) (eVar 1) [some (.pd (.tuple [.tuple [.int 0, .int 1], rowD B.length (fac B) i])), some (.pd (.tuple (vecD B.length x))), none, none] [] =
      .ok ((((List.range B.length).map fun k => Zd.D.pd (.tuple [fr (fac B i k), fr (x k)])), [] ++ []), []) := by
    have z := zip_range B.length (fun k => fr (fac B i k)) (fun k => fr (x k))
    simp [iZp, srcA, srcL, vecD, rowD] at z ⊢
  have l1 := lcD_eq (vs := [2, 3]) i1 (by rw [List.length_map, List.length_range]; exact sizeLine_ge (by omega)) c1
  have hz : 1 + ((List.range B.length).filter fun k => !decide (fac B i k = 0)).length ≤ sizeLine := by
    have := List.length_filter_le (fun k => !decide (fac B i k = 0)) (List.range B.length)
    simp only [List.length_range] at this
    exact sizeLine_ge (by omega)
  have hm : (0 :: ((List.range B.length).filter fun k => !decide (fac B i k = 0)).map fun k => fac B i k * x k).map fr = PyData.tuple [.int 0, .int 1] :: ((List.range B.length).filter fun k => !decide (fac B i k = 0)).map fun k => fr (fac B i k * x k) := by
    rw [List.map_cons, List.map_map]
    rfl
  rw [hm] at tl
  have s0 : p_law_value [some (.pd (.tuple [.tuple [.int 0, .int 1], rowD B.length (fac B) i])), some (.pd (.tuple (vecD B.length x))), none, none] [] = .ok ((.rt (.pd (fr (rd B.length (fac B) x i))), [some (.pd (.tuple [.tuple [.int 0, .int 1], rowD B.length (fac B) i])), some (.pd (.tuple (vecD B.length x))), none, none]), []) := by
    simp [p_law_value, l1, sizeLine_ge, hz, tl, noL]
  exact fnP_run ((congrFun (congrFun parts_law_value _) _).trans s0) rfl rfl
/-- a cell's share of the energy -/
def enI (n : Nat) (f : Nat → Nat → Rat) (s x : Nat → Rat) (c : Nat) : Rat := s c * x c * (x c - rd n f x c)
theorem law_energy_ok (E : Eb B s Ds Df) (X : Xs B.length D N x) : F__law_energy [gbD B, .tuple (vecD B.length s), .tuple (vecD B.length x)] = .ok (fr (ene B.length (fac B) s x)) := by
  have n5 := E.W.most
  obtain ⟨q1, q2⟩ := fd E X
  have sx : ∀ k, k < B.length → Sm (x k) := fun k hk => X.sm hk
  have ssc : ∀ k, k < B.length → Sm (s k) := fun k hk => E.ssm hk
  have f1 : ∀ k, k < B.length → Fx (Ds * D) (2 ^ 841) (s k * x k) := fun k hk => by
    refine ((E.sfx k hk).mul (X.fx k hk)).mono ?_
    have := Nat.mul_le_mul (Nat.le_refl (2 ^ 690)) X.d3
    rw [← Nat.pow_add] at this
    exact this
  have d1 : 0 < Ds * D := Nat.mul_pos E.ds X.d1
  have d2 : Ds * D ≤ 2 ^ 645 := by
    have := Nat.mul_le_mul E.dsb X.d2
    rw [← Nat.pow_add] at this
    exact this
  have f2 : ∀ k, k < B.length → Fx (Df * D) (2 ^ 490) (rd B.length (fac B) x k) := fun k hk => rd_fx E X hk
  have f3 : ∀ k, k < B.length → Fx (Df * D) (2 ^ 491) (x k - rd B.length (fac B) x k) := fun k hk => by
    have h1 := (X.fx k hk).lift Df
    rw [Nat.mul_comm D Df] at h1
    refine (h1.sub (f2 k hk)).mono ?_
    have h2 := Nat.mul_le_mul X.d3 E.dfb
    rw [← Nat.pow_add] at h2
    have h3 : 2 ^ (151 + 325) ≤ 2 ^ 490 := up2 (by decide)
    have e : 2 ^ 491 = 2 * 2 ^ 490 := by rw [show 491 = 1 + 490 from rfl, Nat.pow_add]
    rw [e]
    omega
  have f4 : ∀ k, k < B.length → Fx (Ds * D * (Df * D)) (2 ^ 1332) (enI B.length (fac B) s x k) := fun k hk => by
    have := (f1 k hk).mul (f3 k hk)
    rw [← Nat.pow_add] at this
    exact this
  have g1 : 0 < Ds * D * (Df * D) := Nat.mul_pos d1 q1
  have g2 : Ds * D * (Df * D) ≤ 2 ^ 1040 := by
    have := Nat.mul_le_mul d2 q2
    rw [← Nat.pow_add] at this
    exact this
  have s1 : ∀ k, k < B.length → Sm (s k * x k) := fun k hk => fx_sm (f1 k hk) d1 (Nat.le_trans d2 (up2 (by decide))) (up2 (by decide))
  have s2 : ∀ k, k < B.length → Sm (rd B.length (fac B) x k) := fun k hk => rd_sm E X hk
  have s3 : ∀ k, k < B.length → Sm (x k - rd B.length (fac B) x k) := fun k hk => fx_sm (f3 k hk) q1 (Nat.le_trans q2 (up2 (by decide))) (up2 (by decide))
  have tl := law_total_ok (k := B.length) (g := enI B.length (fac B) s x) (fun j hj => fx_sm (f4 j hj) g1 (Nat.le_trans g2 (up2 (by decide))) (up2 (by decide))) (fun j hj => fx_sm (Fx.tot j fun i hi => f4 i (by omega)) g1 (Nat.le_trans g2 (up2 (by decide))) (Nat.le_trans (Nat.mul_le_mul (show j ≤ 2 ^ 3 by omega) (Nat.le_refl _)) (by rw [← Nat.pow_add]; exact up2 (by decide))))
  have te : tot (enI B.length (fac B) s x) B.length = ene B.length (fac B) s x := rfl
  rw [te] at tl
  have st0 : p_law_energy_0 [some (.pd (gbD B)), some (.pd (.tuple (vecD B.length s))), some (.pd (.tuple (vecD B.length x))), none, none, none, none] [] = .ok ((.nx, [some (.pd (gbD B)), some (.pd (.tuple (vecD B.length s))), some (.pd (.tuple (vecD B.length x))), some (.ref 0), none, none, none]), [.lst []]) := by
    simp [p_law_energy_0, bindT]
  obtain ⟨env', μ', r1, rfl, rfl⟩ := for_rel (T := .tp [(.nm 4), (.nm 5)]) (b := p_law_energy_1_b) (ei := iEn (eVar 0)) (env := [some (.pd (gbD B)), some (.pd (.tuple (vecD B.length s))), some (.pd (.tuple (vecD B.length x))), some (.ref 0), none, none, none]) (μ := [.lst []]) (μ1 := [.lst []])
    (fun t env μ => env = [some (.pd (gbD B)), some (.pd (.tuple (vecD B.length s))), some (.pd (.tuple (vecD B.length x))), some (.ref 0), none, none, none] ∧ μ = [.lst ((List.range t).map fun j => fr (enI B.length (fac B) s x j))])
    (en_ok (n := B.length) (fun i => ceD (cel B i)) (by rw [← gb_cel]; exact v_var 0 rfl)) ⟨rfl, rfl⟩ (fun _ _ _ _ => held_nil) (fun j d env μ hd hP => by
      obtain ⟨rfl, rfl⟩ := hP
      simp only [List.getElem?_map, Option.map_eq_some_iff] at hd
      obtain ⟨j', hj, rfl⟩ := hd
      obtain ⟨hj1, hj2⟩ := List.getElem?_eq_some_iff.mp hj
      simp at hj1 hj2
      subst hj2
      obtain ⟨r, rest, k1, k2, k3⟩ := cel_cons E.W hj1
      have er := ru_row E.W hj1
      rw [k2] at er
      have v1 := value_ok E X hj1
      have e1 := L_by_ok (ssc j hj1) (sx j hj1)
      have e2 := L_minus_ok (sx j hj1) (s2 j hj1)
      have e3 := L_by_ok (s1 j hj1) (s3 j hj1)
      have hz2 : j < sizeLine := small1000 (by omega)
      have a0 : p_law_energy_1_b_0 [some (.pd (gbD B)), some (.pd (.tuple (vecD B.length s))), some (.pd (.tuple (vecD B.length x))), some (.ref 0), some (.pd (.int (j : Int))), some (.pd (ceD (cel B j))), none] [.lst ((List.range j).map fun j => fr (enI B.length (fac B) s x j))] =
          .ok ((.nx, [some (.pd (gbD B)), some (.pd (.tuple (vecD B.length s))), some (.pd (.tuple (vecD B.length x))), some (.ref 0), some (.pd (.int (j : Int))), some (.pd (ceD (cel B j))), some (.pd (fr (rd B.length (fac B) x j)))]), [.lst ((List.range j).map fun j => fr (enI B.length (fac B) s x j))]) := by
        simp [p_law_energy_1_b_0, k1, ce_at0, ru_at1, er, sizeLine_ge, v1, bindT]
      have a1 : p_law_energy_1_b_1 [some (.pd (gbD B)), some (.pd (.tuple (vecD B.length s))), some (.pd (.tuple (vecD B.length x))), some (.ref 0), some (.pd (.int (j : Int))), some (.pd (ceD (cel B j))), some (.pd (fr (rd B.length (fac B) x j)))] [.lst ((List.range j).map fun j => fr (enI B.length (fac B) s x j))] =
          .ok ((.nx, [some (.pd (gbD B)), some (.pd (.tuple (vecD B.length s))), some (.pd (.tuple (vecD B.length x))), some (.ref 0), some (.pd (.int (j : Int))), some (.pd (ceD (cel B j))), some (.pd (fr (rd B.length (fac B) x j)))]), [.lst (((List.range j).map fun j => fr (enI B.length (fac B) s x j)) ++ [fr (enI B.length (fac B) s x j)])]) := by
        simp [p_law_energy_1_b_1, at_vec hj1, e1, e2, e3, hz2, enI]
      have e : (List.range (j + 1)).map (fun j => fr (enI B.length (fac B) s x j)) = ((List.range j).map fun j => fr (enI B.length (fac B) s x j)) ++ [fr (enI B.length (fac B) s x j)] := by
        rw [List.range_succ, List.map_append]
        rfl
      refine ⟨[some (.pd (gbD B)), some (.pd (.tuple (vecD B.length s))), some (.pd (.tuple (vecD B.length x))), some (.ref 0), some (.pd (.int (j : Int))), some (.pd (ceD (cel B j))), none], _, _, by simp [bindT, bindTs], .inl ?_, rfl, rfl⟩
      unfold p_law_energy_1_b
      rw [v_forget, seq_nx a0, a1, e]
      rfl)
  rw [List.length_map, List.length_range] at r1
  have st2 : p_law_energy_2 [some (.pd (gbD B)), some (.pd (.tuple (vecD B.length s))), some (.pd (.tuple (vecD B.length x))), some (.ref 0), none, none, none] [.lst ((List.range B.length).map fun j => fr (enI B.length (fac B) s x j))] = .ok ((.rt (.pd (fr (ene B.length (fac B) s x))), [some (.pd (gbD B)), some (.pd (.tuple (vecD B.length s))), some (.pd (.tuple (vecD B.length x))), some (.ref 0), none, none, none]), [.lst ((List.range B.length).map fun j => fr (enI B.length (fac B) s x j))]) := by
    simp [p_law_energy_2, tl, derefs, deref]
  exact fnP_run ((congrFun (congrFun parts_law_energy _) _).trans ((seq_nx st0).trans ((seq_nx r1).trans st2))) rfl rfl
end
end P55

set_option Elab.async false
set_option linter.all false
set_option maxRecDepth 100000
set_option maxHeartbeats 1000000
/-! The drawn even book. -/
namespace P55
open PySem PySem.Spec PyProof.Rows L2 Zd
/-- the ties told so far: pairs below one, and one with those below j -/
def Ties (kvs : List (List Key × PyData)) (one j : Nat) : Prop := ∀ a b : Nat, ((b < a ∧ a < one) ∨ (a = one ∧ b < j)) → ∃ v : Int, v.natAbs ≤ 2 ∧ lk kvs [.inl (a : Int), .inl (b : Int)] = some (.int v) ∧ lk kvs [.inl (b : Int), .inl (a : Int)] = some (.int v)
def tieMenu : List PyData := [.int 0, .int 1, .int (-1), .int 2, .int (-2), .int 0]
theorem tie_menu : ∀ d ∈ tieMenu, ∃ v : Int, d = .int v ∧ v.natAbs ≤ 2 := by
  intro d hd
  simp only [tieMenu, List.mem_cons, List.not_mem_nil, or_false] at hd
  rcases hd with rfl | rfl | rfl | rfl | rfl | rfl <;> exact ⟨_, rfl, by decide⟩
theorem key_eq {a b c d : Nat} : ([.inl (a : Int), .inl (b : Int)] : List Key) = [.inl (c : Int), .inl (d : Int)] ↔ a = c ∧ b = d := by
  constructor
  · intro h
    simp only [List.cons.injEq, Sum.inl.injEq, and_true] at h
    omega
  · rintro ⟨rfl, rfl⟩
    rfl
theorem ties_put {kvs : List (List Key × PyData)} {one j : Nat} {v : Int} (h : Ties kvs one j) (hj : j < one) (hv : v.natAbs ≤ 2) :
    Ties (pt (pt kvs [.inl (one : Int), .inl (j : Int)] (.int v)) [.inl (j : Int), .inl (one : Int)] (.int v)) one (j + 1) := by
  intro a b hab
  simp only [lk_pt, key_eq]
  by_cases e : a = one ∧ b = j
  · obtain ⟨rfl, rfl⟩ := e
    exact ⟨v, hv, by simp, by simp⟩
  · obtain ⟨u, h1, h2, h3⟩ := h a b (by omega)
    refine ⟨u, h1, ?_, ?_⟩
    · rw [if_neg (by omega), if_neg (by omega)]
      exact h2
    · rw [if_neg (by omega), if_neg (by omega)]
      exact h3
theorem ties_next {kvs : List (List Key × PyData)} {one : Nat} (h : Ties kvs one one) : Ties kvs (one + 1) 0 := fun a b hab => h a b (by omega)
/-- the inner turn -/
theorem even_inner {l k one j : Nat} {μ : Store} {kvs : List (List Key × PyData)} {x2 x3 x5 y1 : D} {rest : Zd.Env} (hb : BagAt l k μ) (hk : k ≤ 800000) (ht : Ties kvs one j) (hj : j < one) (hl : kvs.length ≤ 1000) (ho : one ≤ 5) :
    ∃ (μ' : Store) (kvs' : List (List Key × PyData)), p_law_even_book_3_b_b (some (.ref l) :: some y1 :: some x2 :: some x3 :: some (.ref μ.length) :: some x5 :: some (.pd (.int (one : Int))) :: some (.pd (.int (j : Int))) :: rest) (μ ++ [.dit kvs]) =
      .ok ((.nx, some (.ref l) :: some y1 :: some x2 :: some x3 :: some (.ref μ.length) :: some x5 :: some (.pd (.int (one : Int))) :: none :: rest), μ' ++ [.dit kvs']) ∧ Dr l μ μ' ∧ BagAt l (k + 1) μ' ∧ Ties kvs' one (j + 1) ∧ kvs'.length ≤ kvs.length + 2 := by
  have lt := hb.lt
  obtain ⟨S1, d, g1, d1, g2, g3⟩ := some_ok (hb.app (ex := [.dit kvs]) (by simp [isLls])) (by omega) (ds := tieMenu) (by decide) (by decide)
  obtain ⟨μ1, rfl, d2⟩ := d1.app lt
  obtain ⟨v, rfl, hv⟩ := tie_menu d g3
  simp only [tieMenu] at g1
  have lm := d2.len
  have l1 := pt_len kvs ([.inl (one : Int), .inl (j : Int)] : List Key) (.int v)
  have l2 := pt_len (pt kvs ([.inl (one : Int), .inl (j : Int)] : List Key) (.int v)) ([.inl (j : Int), .inl (one : Int)] : List Key) (.int v)
  have s1 : kvs.length < sizeLine := small1000 hl
  have s2 : (pt kvs ([.inl (one : Int), .inl (j : Int)] : List Key) (.int v)).length < sizeLine := by
    have : (1001 : Nat) < sizeLine := by decide
    omega
  have at0 : ditAt (μ ++ [.dit kvs]) (.ref μ.length) = some (μ.length, kvs) := ditAt_of (by simp)
  have at1 : ∀ kv, ditAt (μ1 ++ [.dit kv]) (.ref μ.length) = some (μ.length, kv) := fun kv => ditAt_of (by rw [← lm]; simp)
  have st : ∀ a z : Cell, (μ1 ++ [a]).set μ.length z = μ1 ++ [z] := fun a z => by rw [← lm]; simp
  refine ⟨μ1, _, ?_, d2, g2.unapp (by omega), ties_put ht hj hv, by omega⟩
  simp -implicitDefEqProofs [p_law_even_book_3_b_b, p_law_even_book_3_b_b_0, p_law_even_book_3_b_b_1, g1, sizeLine_ge, at0, at1, st, s1, s2, lk_pt, wipeE]
theorem even_ties {l k n : Nat} {μ : Store} {x3 x5 y1 : D} {rest : Zd.Env} (hb : BagAt l k μ) (hk : k ≤ 700000) (hn : n ≤ 5) :
    ∃ (μ' : Store) (kvs' : List (List Key × PyData)) (e6 : Option D), p_law_even_book_3 (some (.ref l) :: some y1 :: some (.pd (.int (n : Int))) :: some x3 :: some (.ref μ.length) :: some x5 :: none :: none :: rest) (μ ++ [.dit []]) =
      .ok ((.nx, some (.ref l) :: some y1 :: some (.pd (.int (n : Int))) :: some x3 :: some (.ref μ.length) :: some x5 :: e6 :: none :: rest), μ' ++ [.dit kvs']) ∧ Dr l μ μ' ∧ BagAt l (k + 25) μ' ∧ Ties kvs' n 0 := by
  obtain ⟨env', S, h1, μ', kvs', e6, rfl, rfl, h5, h2, h3, h4⟩ := for_rel (T := .nm 6) (b := p_law_even_book_3_bx) (ei := iRg1 (eVar 2))
    (env := some (.ref l) :: some y1 :: some (.pd (.int (n : Int))) :: some x3 :: some (.ref μ.length) :: some x5 :: none :: none :: rest) (μ := μ ++ [.dit []])
    (fun i env S => ∃ (μ' : Store) (kvs' : List (List Key × PyData)) (e6 : Option D), env = some (.ref l) :: some y1 :: some (.pd (.int (n : Int))) :: some x3 :: some (.ref μ.length) :: some x5 :: e6 :: none :: rest ∧ S = μ' ++ [.dit kvs'] ∧ Dr l μ μ' ∧ BagAt l (k + 5 * i) μ' ∧ Ties kvs' i 0 ∧ kvs'.length ≤ 10 * i)
    (rg1_ok (n := n) (by simp) (by omega)) ⟨μ, [], none, rfl, rfl, .refl hb, hb, fun a b hab => by omega, by simp⟩ (fun _ _ _ _ => held_nil) (fun i d env S hd hp => by
      obtain ⟨μ1, kv1, e6, rfl, rfl, g0, g1, g2, g3⟩ := hp
      obtain ⟨hi1, rfl⟩ := range_item hd
      have lm := g0.len
      obtain ⟨env', S', f1, μ2, kv2, rfl, rfl, f0, f2, f3, f4⟩ := for_rel (T := .nm 7) (b := p_law_even_book_3_b_b) (ei := iRg1 (eVar 6))
        (env := some (.ref l) :: some y1 :: some (.pd (.int (n : Int))) :: some x3 :: some (.ref μ.length) :: some x5 :: some (.pd (.int (i : Int))) :: none :: rest) (μ := μ1 ++ [.dit kv1])
        (fun j env S => ∃ (μ' : Store) (kvs' : List (List Key × PyData)), env = some (.ref l) :: some y1 :: some (.pd (.int (n : Int))) :: some x3 :: some (.ref μ.length) :: some x5 :: some (.pd (.int (i : Int))) :: none :: rest ∧ S = μ' ++ [.dit kvs'] ∧ Dr l μ1 μ' ∧ BagAt l (k + 5 * i + j) μ' ∧ Ties kvs' i j ∧ kvs'.length ≤ 10 * i + 2 * j)
        (rg1_ok (n := i) (by simp) (by omega)) ⟨μ1, kv1, rfl, rfl, .refl g1, g1, g2, by omega⟩ (fun _ _ _ _ => held_nil) (fun j d env S hd hp => by
          obtain ⟨μ3, kv3, rfl, rfl, q0, q1, q2, q3⟩ := hp
          obtain ⟨hj1, rfl⟩ := range_item hd
          have lm3 := q0.len
          obtain ⟨μ4, kv4, u1, u0, u2, u3, u4⟩ := even_inner (x2 := .pd (.int (n : Int))) (x3 := x3) (x5 := x5) (y1 := y1) (rest := rest) q1 (by omega) q2 hj1 (by omega) (by omega)
          rw [lm3, lm] at u1
          exact ⟨_, _, _, rfl, .inl u1, μ4, kv4, rfl, rfl, q0.trans u0, u2, u3, by omega⟩)
      simp only [List.length_map, List.length_range] at f2 f3 f4
      refine ⟨some (.ref l) :: some y1 :: some (.pd (.int (n : Int))) :: some x3 :: some (.ref μ.length) :: some x5 :: some (.pd (.int (i : Int))) :: none :: rest, some (.ref l) :: some y1 :: some (.pd (.int (n : Int))) :: some x3 :: some (.ref μ.length) :: some x5 :: some (.pd (.int (i : Int))) :: none :: rest, μ2 ++ [.dit kv2], by simp [bindT], .inl ?_, μ2, kv2, _, rfl, rfl, g0.trans f0, f2.mono (by omega), ties_next f3, by omega⟩
      show sForget [7] (sFor (.nm 7) (iRg1 (eVar 6)) p_law_even_book_3_b_b) _ _ = _
      simp [f1, wipeE])
  simp only [List.length_map, List.length_range] at h2 h3
  exact ⟨μ', kvs', e6, h1, h5, h2.mono (by omega), h3⟩
def tval (kvs : List (List Key × PyData)) (i j : Nat) : Int := if i = j then 0 else match lk kvs [.inl (i : Int), .inl (j : Int)] with
  | some (.int v) => v
  | _ => 0
theorem tval_lk {kvs : List (List Key × PyData)} {n i j : Nat} (h : Ties kvs n 0) (hi : i < n) (hj : j < n) (hne : i ≠ j) : lk kvs [.inl (i : Int), .inl (j : Int)] = some (.int (tval kvs i j)) ∧ (tval kvs i j).natAbs ≤ 2 := by
  have key : ∀ a b : Nat, b < a → a < n → ∃ v : Int, v.natAbs ≤ 2 ∧ lk kvs [.inl (a : Int), .inl (b : Int)] = some (.int v) ∧ lk kvs [.inl (b : Int), .inl (a : Int)] = some (.int v) := fun a b h1 h2 => h a b (.inl ⟨h1, h2⟩)
  unfold tval
  rw [if_neg hne]
  rcases Nat.lt_or_gt_of_ne hne with g | g
  · obtain ⟨v, h1, h2, h3⟩ := key j i g hj
    rw [h3]
    exact ⟨rfl, h1⟩
  · obtain ⟨v, h1, h2, h3⟩ := key i j g hi
    rw [h2]
    exact ⟨rfl, h1⟩
def facE (kvs : List (List Key × PyData)) (s : Nat → Int) (top : Int) (i j : Nat) : Rat := if i = j then 0 else Rat.divInt (tval kvs i j) (top * s i)
def rowE (kvs : List (List Key × PyData)) (ss : List Int) (top : Int) (n i : Nat) : List Rat := (List.range n).map fun j => facE kvs (fun i => ss.getD i 1) top i j
theorem nine {z : Int} (h : z.natAbs ≤ 1000) : z.natAbs < 2 ^ 9000 := Nat.lt_of_le_of_lt h (Nat.lt_of_lt_of_le (by decide : 1000 < 2 ^ 10) (Nat.pow_le_pow_right (by decide) (by decide)))
theorem even_row {n i dl : Nat} {ss : List Int} {top : Int} {kvs : List (List Key × PyData)} {S : Store} {d0 y1 : D} {e6 e7 e8 e10 e11 : Option D} (hat : ditAt S (.ref dl) = some (dl, kvs)) (ht : Ties kvs n 0) (hn : n ≤ 5) (hi : i < n) (hs : ss.length = n) (hs1 : ∀ z ∈ ss, 1 ≤ z ∧ z ≤ 3) (h1 : 1 ≤ top) (h3 : top ≤ 3) :
    p_law_even_book_5_b_0 [some d0, some y1, some (.pd (.int (n : Int))), some (.pd (.list (ss.map .int))), some (.ref dl), some (.pd (.int top)), e6, e7, e8, some (.pd (.int (i : Int))), e10, e11] S =
      .ok ((.nx, [some d0, some y1, some (.pd (.int (n : Int))), some (.pd (.list (ss.map .int))), some (.ref dl), some (.pd (.int top)), e6, e7, e8, some (.pd (.int (i : Int))), some (.pd (.list ((rowE kvs ss top n i).map fr))), e11]), S) ∧ ∀ q ∈ rowE kvs ss top n i, Bd 1200 6000 q := by
  have hii : i < ss.length := by omega
  have hsi := hs1 _ (List.getElem_mem hii)
  have e1 : ss.getD i 1 = ss[i] := by simp [List.getD, hii]
  have p1 : 1 ≤ top * ss[i] := by
    have := Int.mul_le_mul h1 hsi.1 (by decide) (by omega)
    omega
  have p2 : top * ss[i] ≤ 9 := by
    have := Int.mul_le_mul h3 hsi.2 (by omega) (by decide)
    omega
  refine ⟨?_, fun q hq => ?_⟩
  · have cmm : CMulW top ss[i] := cmul (nine (by omega)) (nine (by omega))
    have hz : PyData.tuple [.int 0, .int 1] = fr 0 := rfl
    have hc := comp_mapA (g := []) (T := .nm 6) (μ := S) (elt := eIf (eTst (eOp2 fEq (eVar 6) (eVar 9))) (eTup (aCons (eC (.int 0)) (aCons (eC (.int 1)) aNil))) (eCallP F__law_f (aCons (eTGet (eVar 4) (aCons (eVar 9) (aCons (eVar 6) aNil))) (aCons (eMul (eVar 5) (eIx (eVar 3) (eVar 9))) aNil))))
      (env := wipeE [some d0, some y1, some (.pd (.int (n : Int))), some (.pd (.list (ss.map .int))), some (.ref dl), some (.pd (.int top)), e6, e7, e8, some (.pd (.int (i : Int))), e10, e11] [6]) held_nil
      (fun j : Nat => D.pd (.int (j : Int))) (fun j => D.pd (fr (facE kvs (fun i => ss.getD i 1) top i j))) (List.range n) (fun j hj => by
        simp at hj
        refine ⟨[some d0, some y1, some (.pd (.int (n : Int))), some (.pd (.list (ss.map .int))), some (.ref dl), some (.pd (.int top)), some (.pd (.int (j : Int))), e7, e8, some (.pd (.int (i : Int))), e10, e11], by simp [bindT, wipeE], ?_⟩
        by_cases hij : j = i
        · subst hij
          simp [facE, hz, sizeLine_ge]
        · obtain ⟨t1, t3⟩ := tval_lk ht hi hj (Ne.symm hij)
          have fe := F_f_ok (n := tval kvs i j) (d := top * ss[i]) (by omega) (nine (by omega)) (nine (by omega))
          have hne : ¬ ((j : Int) = (i : Int)) := by omega
          simp [hne, hat, t1, sizeLine_ge, at_nat, hii, cmm, fe, facE, Ne.symm hij, e1])
    have hr1 := rg1_ok (a := eVar 2) (env := [some d0, some y1, some (.pd (.int (n : Int))), some (.pd (.list (ss.map .int))), some (.ref dl), some (.pd (.int top)), e6, e7, e8, some (.pd (.int (i : Int))), e10, e11]) (μ := S) (μ1 := S) (n := n) (by simp) (by omega)
    have hm : (rowE kvs ss top n i).map fr = (List.range n).map fun j => fr (facE kvs (fun i => ss.getD i 1) top i j) := by
      unfold rowE
      rw [List.map_map]
      rfl
    rw [hm]
    unfold p_law_even_book_5_b_0
    simp [lcD_eq hr1 (by simp; exact sizeLine_ge (by omega)) hc, bindT]
  · obtain ⟨j, hj, rfl⟩ := List.mem_map.mp hq
    simp at hj
    unfold facE
    by_cases e : i = j
    · rw [if_pos e]
      exact ⟨by decide, by decide⟩
    · rw [if_neg e]
      dsimp only
      rw [e1]
      have := (tval_lk ht hi hj e).2
      exact Bd.of_divInt (by omega) (by omega) (by omega)
theorem even_cells {l k n : Nat} {ss : List Int} {top : Int} {kvs : List (List Key × PyData)} {μ : Store} {y1 : D} {e6 e11 : Option D} (hb : BagAt l k μ) (hk : k ≤ 700000) (ht : Ties kvs n 0) (hn : n ≤ 5) (hs : ss.length = n) (hs1 : ∀ z ∈ ss, 1 ≤ z ∧ z ≤ 3) (h1 : 1 ≤ top) (h3 : top ≤ 3) :
    ∃ (μ' : Store) (cs : List (List Ru)), p_law_even_book_5 [some (.ref l), some y1, some (.pd (.int (n : Int))), some (.pd (.list (ss.map .int))), some (.ref μ.length), some (.pd (.int top)), e6, none, some (.ref (μ.length + 1)), none, none, e11] (μ ++ [.dit kvs, .lst []]) =
      .ok ((.nx, [some (.ref l), some y1, some (.pd (.int (n : Int))), some (.pd (.list (ss.map .int))), some (.ref μ.length), some (.pd (.int top)), e6, none, some (.ref (μ.length + 1)), none, none, e11]), μ' ++ [.dit kvs, .lst (cs.map ceD)]) ∧ Dr l μ μ' ∧ BagAt l (k + 10) μ' ∧ cs.length = n ∧ ∀ c ∈ cs, WC n c ∧ c.length = 1 := by
  have lt := hb.lt
  obtain ⟨env', S, f1, rfl, μ', cs, rfl, d', b', lc, wc⟩ := for_rel (T := .nm 9) (b := p_law_even_book_5_b) (ei := iRg1 (eVar 2))
    (env := [some (.ref l), some y1, some (.pd (.int (n : Int))), some (.pd (.list (ss.map .int))), some (.ref μ.length), some (.pd (.int top)), e6, none, some (.ref (μ.length + 1)), none, none, e11]) (μ := μ ++ [.dit kvs, .lst []]) (μ1 := μ ++ [.dit kvs, .lst []])
    (fun i env S => env = [some (.ref l), some y1, some (.pd (.int (n : Int))), some (.pd (.list (ss.map .int))), some (.ref μ.length), some (.pd (.int top)), e6, none, some (.ref (μ.length + 1)), none, none, e11] ∧ ∃ (μ' : Store) (cs : List (List Ru)), S = μ' ++ [.dit kvs, .lst (cs.map ceD)] ∧ Dr l μ μ' ∧ BagAt l (k + 2 * i) μ' ∧ cs.length = i ∧ ∀ c ∈ cs, WC n c ∧ c.length = 1)
    (rg1_ok (n := n) (by simp) (by omega)) ⟨rfl, μ, [], rfl, .refl hb, hb, rfl, by simp⟩ (fun _ _ _ _ => held_nil) (fun i d env S hd hp => by
      obtain ⟨rfl, μ1, cs, rfl, d1, b1, lc, wc⟩ := hp
      obtain ⟨hi, rfl⟩ := range_item hd
      have lm := d1.len
      obtain ⟨hrow, hbd⟩ := even_row (i := i) (dl := μ.length) (S := μ1 ++ [.dit kvs, .lst (cs.map ceD)]) (d0 := .ref l) (y1 := y1) (e6 := e6) (e7 := none) (e8 := some (.ref (μ.length + 1))) (e10 := none) (e11 := e11) (ditAt_of (by rw [← lm]; simp)) ht hn hi hs hs1 h1 h3
      obtain ⟨S2, q, q1, d2, b2, tq⟩ := told_ok (b1.app (ex := [.dit kvs, .lst (cs.map ceD)]) (by simp [isLls])) (by omega)
      obtain ⟨μ2, rfl, d3⟩ := d2.app (by omega)
      have lm2 := d3.len
      have g1 : (μ1 ++ [Cell.dit kvs, .lst (cs.map ceD)])[μ.length + 1]? = some (.lst (cs.map ceD)) := by rw [← lm]; simp
      have g2 : (μ2 ++ [Cell.dit kvs, .lst (cs.map ceD)])[μ.length + 1]? = some (.lst (cs.map ceD)) := by rw [← lm, ← lm2]; simp
      have g3 : ∀ z, (μ2 ++ [Cell.dit kvs, .lst (cs.map ceD)]).set (μ.length + 1) z = μ2 ++ [.dit kvs, z] := fun z => by rw [← lm, ← lm2]; simp
      have hz : cs.length < sizeLine := szl' (by omega)
      have s1 : p_law_even_book_5_b_1 [some (.ref l), some y1, some (.pd (.int (n : Int))), some (.pd (.list (ss.map .int))), some (.ref μ.length), some (.pd (.int top)), e6, none, some (.ref (μ.length + 1)), some (.pd (.int (i : Int))), some (.pd (.list ((rowE kvs ss top n i).map fr))), e11] (μ1 ++ [.dit kvs, .lst (cs.map ceD)]) =
          .ok ((.nx, [some (.ref l), some y1, some (.pd (.int (n : Int))), some (.pd (.list (ss.map .int))), some (.ref μ.length), some (.pd (.int top)), e6, none, some (.ref (μ.length + 1)), some (.pd (.int (i : Int))), some (.pd (.list ((rowE kvs ss top n i).map fr))), e11]), μ2 ++ [.dit kvs, .lst ((cs ++ [[(q, rowE kvs ss top n i)]]).map ceD)]) := by
        simp -implicitDefEqProofs [p_law_even_book_5_b_1, q1, g1, g2, g3, sz, hz, ceD, ruD]
      refine ⟨[some (.ref l), some y1, some (.pd (.int (n : Int))), some (.pd (.list (ss.map .int))), some (.ref μ.length), some (.pd (.int top)), e6, none, some (.ref (μ.length + 1)), some (.pd (.int (i : Int))), none, e11], _, _, by simp [bindT], .inl ?_, rfl, μ2, cs ++ [[(q, rowE kvs ss top n i)]], rfl, d1.trans d3, (b2.unapp (by omega)).mono (by omega), by simp [lc], fun y hy => ?_⟩
      · unfold p_law_even_book_5_b
        rw [v_forget, seq_nx hrow, s1]
        rfl
      · rcases List.mem_append.mp hy with h | h
        · exact wc y h
        · rw [List.mem_singleton.mp h]
          refine ⟨⟨by simp, by simp, fun r hr => ?_⟩, rfl⟩
          rw [List.mem_singleton.mp hr]
          exact ⟨tq, by simp [rowE], hbd⟩)
  rw [List.length_map, List.length_range] at b' lc
  exact ⟨μ', cs, f1, d', b'.mono (by omega), lc, wc⟩
theorem even_ok {l k : Nat} {μ : Store} (hb : BagAt l k μ) (hk : k ≤ 500000) :
    ∃ (μ' : Store) (B : List (List Ru)) (x : PyData), F__law_even_book [.ref l, .pd (.int 5)] μ = .ok (.pd (.tuple [gbD B, x]), μ') ∧ Dr l μ μ' ∧ BagAt l (k + 100) μ' ∧ WB B ∧ ∀ c ∈ B, c.length = 1 := by
  have lt := hb.lt
  obtain ⟨μ1, v, a1, d1, b1, v0, v1⟩ := take_ok hb (by omega) (m := 5) (by decide) (by decide)
  obtain ⟨m, rfl⟩ := Int.eq_ofNat_of_zero_le v0
  obtain ⟨n, hmn⟩ : ∃ n : Nat, n = m + 1 := ⟨_, rfl⟩
  have hm : (1 : Int) + (m : Int) = (n : Int) := by omega
  have hn1 : 1 ≤ n := by omega
  have hn : n ≤ 5 := by omega
  clear hmn
  obtain ⟨μ2, xs, e2, d2, b2, l2, p2⟩ := lc_draw (l := l) (a := 1) (v := 11) (n := n) (elt := eAdd (eC (.int 1)) (eCallS F__law_take (aCons (eVar 0) (aCons (eC (.int 3)) aNil)))) (env := [some (.ref l), some (.pd (.int 5)), some (.pd (.int (n : Int))), none, none, none, none, none, none, none, none, none]) (ea := eVar 2) (P := fun x => ∃ z, x = .int z ∧ 1 ≤ z ∧ z ≤ ((3 : Nat) : Int)) (by decide : 11 < 12) (by simp) (by omega) (by omega) b1 (fun d k' μ hk' b => size_elt (m := 3) rfl (by decide) (by decide) b hk')
  obtain ⟨ss, rfl, hs, hs1⟩ := all_ints p2
  rw [l2] at hs
  have lm2 : μ2.length = μ.length := by rw [d2.len, d1.len]
  obtain ⟨S3, d, t1, d3, t2, t3⟩ := some_ok (b2.app (ex := [.dit []]) (by simp [isLls])) (by omega) (ds := [.int 2, .int 1, .int 3]) (by decide) (by decide)
  obtain ⟨μ3, rfl, d3'⟩ := d3.app (by omega)
  have lm3 : μ3.length = μ.length := by rw [d3'.len, lm2]
  have ht : ∃ top : Int, d = .int top ∧ 1 ≤ top ∧ top ≤ 3 := by
    simp only [List.mem_cons, List.not_mem_nil, or_false] at t3
    rcases t3 with rfl | rfl | rfl <;> exact ⟨_, rfl, by decide, by decide⟩
  obtain ⟨top, rfl, h1, h3⟩ := ht
  have b3 : BagAt l (k + 8) μ3 := (t2.unapp (by omega)).mono (by omega)
  obtain ⟨μ4, kvs, e6, g1, d4, b4, g3⟩ := even_ties (x3 := .pd (.list (ss.map .int))) (x5 := .pd (.int top)) (y1 := .pd (.int 5)) (rest := [none, none, none, none]) b3 (by omega) hn
  have lm4 : μ4.length = μ.length := by rw [d4.len, lm3]
  obtain ⟨μ5, cs, q1, d5, b5, lc, wc⟩ := even_cells (y1 := .pd (.int 5)) (e6 := e6) (e11 := none) b4 (by omega) g3 hn hs hs1 h1 h3
  have lm5 : μ5.length = μ.length := by rw [d5.len, lm4]
  rw [lm3] at g1
  rw [lm4] at q1
  have dd := (((d1.trans d2).trans d3').trans d4).trans d5
  have bb : BagAt l (k + 100) μ5 := b5.mono (by omega)
  refine ⟨μ5, cs, .tuple (ss.map .int), fnS_pd (ex := [.dit kvs, .lst (cs.map ceD)]) ?_ dd bb, dd, bb, ⟨by omega, by omega, fun c hc => by rw [lc]; exact (wc c hc).1⟩, fun c hc => (wc c hc).2⟩
  have s0 : p_law_even_book_0 [some (.ref l), some (.pd (.int 5)), none, none, none, none, none, none, none, none, none, none] μ = .ok ((.nx, [some (.ref l), some (.pd (.int 5)), some (.pd (.int (n : Int))), none, none, none, none, none, none, none, none, none]), μ1) := by
    simp -implicitDefEqProofs [p_law_even_book_0, a1, bindT, hm]
  have s1 : p_law_even_book_1 [some (.ref l), some (.pd (.int 5)), some (.pd (.int (n : Int))), none, none, none, none, none, none, none, none, none] μ1 =
      .ok ((.nx, [some (.ref l), some (.pd (.int 5)), some (.pd (.int (n : Int))), some (.pd (.list (ss.map .int))), some (.ref μ.length), none, none, none, none, none, none, none]), μ2 ++ [.dit []]) := by
    simp -implicitDefEqProofs [p_law_even_book_1, e2, bindTs, bindT, lm2]
  have s2 : p_law_even_book_2 [some (.ref l), some (.pd (.int 5)), some (.pd (.int (n : Int))), some (.pd (.list (ss.map .int))), some (.ref μ.length), none, none, none, none, none, none, none] (μ2 ++ [.dit []]) =
      .ok ((.nx, [some (.ref l), some (.pd (.int 5)), some (.pd (.int (n : Int))), some (.pd (.list (ss.map .int))), some (.ref μ.length), some (.pd (.int top)), none, none, none, none, none, none]), μ3 ++ [.dit []]) := by
    simp -implicitDefEqProofs [p_law_even_book_2, sizeLine_ge, t1, bindT]
  have s4 : p_law_even_book_4 [some (.ref l), some (.pd (.int 5)), some (.pd (.int (n : Int))), some (.pd (.list (ss.map .int))), some (.ref μ.length), some (.pd (.int top)), e6, none, none, none, none, none] (μ4 ++ [.dit kvs]) =
      .ok ((.nx, [some (.ref l), some (.pd (.int 5)), some (.pd (.int (n : Int))), some (.pd (.list (ss.map .int))), some (.ref μ.length), some (.pd (.int top)), e6, none, some (.ref (μ.length + 1)), none, none, none]), μ4 ++ [.dit kvs, .lst []]) := by
    simp -implicitDefEqProofs [p_law_even_book_4, bindT, lm4]
  have hdr : deref (μ5 ++ [Cell.dit kvs, .lst (cs.map ceD)]) (.ref (μ.length + 1)) = some (.list (cs.map ceD)) := dreff _ _ _ (by rw [← lm5]; simp)
  have s6 : p_law_even_book_6 [some (.ref l), some (.pd (.int 5)), some (.pd (.int (n : Int))), some (.pd (.list (ss.map .int))), some (.ref μ.length), some (.pd (.int top)), e6, none, some (.ref (μ.length + 1)), none, none, none] (μ5 ++ [.dit kvs, .lst (cs.map ceD)]) =
      .ok ((.rt (.pd (.tuple [gbD cs, .tuple (ss.map .int)])), [some (.ref l), some (.pd (.int 5)), some (.pd (.int (n : Int))), some (.pd (.list (ss.map .int))), some (.ref μ.length), some (.pd (.int top)), e6, none, some (.ref (μ.length + 1)), none, none, none]), μ5 ++ [.dit kvs, .lst (cs.map ceD)]) := by
    simp -implicitDefEqProofs [p_law_even_book_6, derefs, hdr, sizeLine_ge, gbD]
  exact fnL_run ((congrFun (congrFun parts_law_even_book _) _).trans ((seq_nx s0).trans ((seq_nx s1).trans ((seq_nx s2).trans ((seq_nx g1).trans ((seq_nx s4).trans ((seq_nx q1).trans s6))))))) rfl
end P55

set_option Elab.async false
set_option linter.all false
set_option maxRecDepth 100000
set_option maxHeartbeats 1000000
/-! Spoilt books; drawn values; one place of a tuple written anew. -/
namespace P55
open PySem PySem.Spec PyProof.Rows L2 Zd
theorem add_tup {xs ys : List PyData} (h : xs.length + ys.length ≤ 1000) : fAdd (.tuple xs) (.tuple ys) = some (.tuple (xs ++ ys)) := by
  have e1 : fAddI (.tuple xs) (.tuple ys) = none := rfl
  have e2 : fAddT (.tuple xs) (.tuple ys) = some (.tuple (xs ++ ys)) := if_pos (sizeLine_ge h)
  unfold fAdd
  rw [e1, e2]
  rfl
theorem cut_drop (ds : List PyData) (t : Nat) : Zd.cutD ds (some (t : Int)) none = ds.drop t := by
  unfold Zd.cutD
  have e1 : HT.sIx ds.length ds.length none = ds.length := rfl
  have e2 : HT.sIx ds.length 0 (some (t : Int)) = min t ds.length := by
    simp [HT.sIx]
    omega
  rw [e1, e2]
  by_cases h : t ≤ ds.length
  · rw [Nat.min_eq_left h]
    apply List.take_of_length_le
    simp
  · rw [Nat.min_eq_right (by omega), List.drop_of_length_le (by omega : ds.length ≤ t), List.drop_length]
    simp
/-- a[:i] + (e,) + a[i + 1:] -/
theorem put_tup {va vi : Nat} {e : EvE} {env : Zd.Env} {μ μ' : Store} {ds : List PyData} {j : Nat} {d : PyData} (h1 : env[va]? = some (some (.pd (.tuple ds)))) (h2 : env[vi]? = some (some (.pd (.int (j : Int))))) (h3 : e env μ = .ok (.pd d, μ')) (hj : j < ds.length) (hl : ds.length ≤ 100) :
    eAdd (eAdd (eSlT (eVar va) oNone (oSome (eVar vi))) (eTup (aCons e aNil))) (eSlT (eVar va) (oSome (eAdd (eVar vi) (eC (.int 1)))) oNone) env μ = .ok (.pd (.tuple (ds.set j d)), μ') := by
  have c1 := cut_take ds j
  have c2 : Zd.cutD ds (some ((j : Int) + 1)) none = ds.drop (j + 1) := cut_drop ds (j + 1)
  have a1 : fAdd (.tuple (ds.take j)) (.tuple [d]) = some (.tuple (ds.take j ++ [d])) := add_tup (by simp; omega)
  have a2 : fAdd (.tuple (ds.take j ++ [d])) (.tuple (ds.drop (j + 1))) = some (.tuple (ds.take j ++ [d] ++ ds.drop (j + 1))) := add_tup (by simp; omega)
  have hs : ds.set j d = ds.take j ++ [d] ++ ds.drop (j + 1) := by
    rw [List.set_eq_take_append_cons_drop, if_pos hj]
    simp
  rw [hs]
  simp -implicitDefEqProofs [v_var va h1, v_var vi h2, h3, c1, c2, a1, a2, sizeLine_ge]
def spMenu (q : Rat) : List PyData := [.tuple [.int 1, .int 2], .tuple [.int (-1), .int 3], .tuple [.int 0, .int 1], fr (q * -1)]
theorem sp_menu {q : Rat} (hq : Bd 1200 6000 q) : ∀ d ∈ spMenu q, ∃ p, d = fr p ∧ Bd 1200 6000 p := by
  intro d hd
  simp only [spMenu, List.mem_cons, List.not_mem_nil, or_false] at hd
  rcases hd with rfl | rfl | rfl | rfl
  · exact ⟨_, fr_mk 1 2 (by decide) (by decide), by decide, by decide⟩
  · exact ⟨_, fr_mk (-1) 3 (by decide) (by decide), by decide, by decide⟩
  · exact ⟨_, fr_mk 0 1 (by decide) (by decide), by decide, by decide⟩
  · have hm : Bd 1 1 (-1) := ⟨by decide, by decide⟩
    exact ⟨_, rfl, (hq.mul hm).mono (by decide) (by decide)⟩
theorem wb_set {B : List (List Ru)} (W : WB B) {c : Nat} {rs : List Ru} (h : WC B.length rs) : WB (B.set c rs) := by
  refine ⟨by rw [List.length_set]; exact W.pos, by rw [List.length_set]; exact W.most, fun x hx => ?_⟩
  rw [List.length_set]
  rcases List.mem_or_eq_of_mem_set hx with hx | rfl
  · exact W.ce x hx
  · exact h
theorem spoilt_ok {l k : Nat} {μ : Store} {B : List (List Ru)} (W : WB B) (h1 : ∀ c ∈ B, c.length = 1) (hb : BagAt l k μ) (hk : k ≤ 500000) :
    ∃ (μ' : Store) (B' : List (List Ru)), F__law_spoilt [.ref l, .pd (gbD B)] μ = .ok (.pd (gbD B'), μ') ∧ Dr l μ μ' ∧ BagAt l (k + 100) μ' ∧ WB B' := by
  have wp := W.pos
  have wm := W.most
  obtain ⟨μ1, v, e1, d1, b1, v0, v1⟩ := take_ok hb (by omega) (m := (B.length : Int)) (by omega) (by omega)
  obtain ⟨c, rfl⟩ := Int.eq_ofNat_of_zero_le v0
  have hc : c < B.length := by omega
  obtain ⟨μ2, w, e2, d2, b2, w0, w1⟩ := take_ok b1 (by omega) (m := 4) (by decide) (by decide)
  obtain ⟨r, rest, k1, k2, k3⟩ := cel_cons W hc
  have hr0 : rest = [] := by
    have := h1 _ (cel_mem hc)
    rw [k1] at this
    simpa using this
  subst hr0
  obtain ⟨μ3, u, e3, d3, b3, u0, u1⟩ := take_ok b2 (by omega) (m := (B.length : Int)) (by omega) (by omega)
  obtain ⟨j, rfl⟩ := Int.eq_ofNat_of_zero_le u0
  have hj : j < B.length := by omega
  have hjr : j < r.2.length := by rw [k3.len]; exact hj
  have hq := k3.bd _ (List.getElem_mem hjr)
  obtain ⟨μ4, d, e4, d4, b4, hd⟩ := some_ok b3 (by omega) (ds := spMenu r.2[j]) (by simp [spMenu]) (by simp [spMenu])
  obtain ⟨p, rfl, hp⟩ := sp_menu hq d hd
  simp only [spMenu] at e4
  have hat : atI (r.2.map fr) (j : Int) = some (fr r.2[j]) := by
    rw [at_nat]
    simp [hjr]
  have hby := L_by_ok (a := r.2[j]) (b := -1) (Sm.of200 hq (by decide) (by decide)) (Sm.of200 (N := 1) (D := 1) ⟨by decide, by decide⟩ (by decide) (by decide))
  have hm1 : PyData.tuple [.int (-1), .int 1] = fr (-1) := rfl
  have len := gb_len B
  have s0 : p_law_spoilt_0 [some (.ref l), some (.pd (gbD B)), none, none, none, none, none, none, none] μ = .ok ((.nx, [some (.ref l), some (.pd (gbD B)), some (.pd (.int (c : Int))), some (.pd (.int w)), none, none, none, none, none]), μ2) := by
    simp -implicitDefEqProofs [p_law_spoilt_0, len, e1, e2, bindTs, bindT]
  have s1 : p_law_spoilt_1 [some (.ref l), some (.pd (gbD B)), some (.pd (.int (c : Int))), some (.pd (.int w)), none, none, none, none, none] μ2 = .ok ((.nx, [some (.ref l), some (.pd (gbD B)), some (.pd (.int (c : Int))), some (.pd (.int w)), some (.pd (fr r.1)), some (.pd (.tuple (r.2.map fr))), none, none, none]), μ2) := by
    have hv : eIx (eIx (eVar 1) (eVar 2)) (eC (.int 0)) [some (.ref l), some (.pd (gbD B)), some (.pd (.int (c : Int))), some (.pd (.int w)), none, none, none, none, none] μ2 = .ok (.pd (ruD r), μ2) := by
      simp -implicitDefEqProofs [hc, k1, ce_at0]
    unfold p_law_spoilt_1
    rw [v_set, hv]
    rfl
  have s2 : p_law_spoilt_2 [some (.ref l), some (.pd (gbD B)), some (.pd (.int (c : Int))), some (.pd (.int w)), some (.pd (fr r.1)), some (.pd (.tuple (r.2.map fr))), none, none, none] μ2 = .ok ((.nx, [some (.ref l), some (.pd (gbD B)), some (.pd (.int (c : Int))), some (.pd (.int w)), some (.pd (fr r.1)), some (.pd (.tuple (r.2.map fr))), some (.pd (.int (j : Int))), none, none]), μ3) := by
    simp -implicitDefEqProofs [p_law_spoilt_2, len, e3, bindT]
  have elt : eCallS F__law_some (aCons (eVar 0) (aCons (eFrz (eLst (aCons (eTup (aCons (eC (.int 1)) (aCons (eC (.int 2)) aNil))) (aCons (eTup (aCons (eNeg (eC (.int 1))) (aCons (eC (.int 3)) aNil))) (aCons (eTup (aCons (eC (.int 0)) (aCons (eC (.int 1)) aNil))) (aCons (eCallP F__law_by (aCons (eIx (eVar 5) (eVar 6)) (aCons (eTup (aCons (eNeg (eC (.int 1))) (aCons (eC (.int 1)) aNil))) aNil))) aNil)))))) aNil))
      [some (.ref l), some (.pd (gbD B)), some (.pd (.int (c : Int))), some (.pd (.int w)), some (.pd (fr r.1)), some (.pd (.tuple (r.2.map fr))), some (.pd (.int (j : Int))), none, none] μ3 = .ok (.pd (fr p), μ4) := by
    simp -implicitDefEqProofs [sizeLine_ge, hat, hm1, hby, e4]
  have row := put_tup (va := 5) (vi := 6) (ds := r.2.map fr) (j := j) rfl rfl elt (by simpa using hjr) (by simp [k3.len]; omega)
  have s3 : p_law_spoilt_3 [some (.ref l), some (.pd (gbD B)), some (.pd (.int (c : Int))), some (.pd (.int w)), some (.pd (fr r.1)), some (.pd (.tuple (r.2.map fr))), some (.pd (.int (j : Int))), none, none] μ3 = .ok ((.nx, [some (.ref l), some (.pd (gbD B)), some (.pd (.int (c : Int))), some (.pd (.int w)), some (.pd (fr r.1)), some (.pd (.tuple (r.2.map fr))), some (.pd (.int (j : Int))), some (.pd (.tuple ((r.2.set j p).map fr))), none]), μ4) := by
    unfold p_law_spoilt_3
    rw [v_set, row, List.map_set]
    rfl
  have s4 : p_law_spoilt_4 [some (.ref l), some (.pd (gbD B)), some (.pd (.int (c : Int))), some (.pd (.int w)), some (.pd (fr r.1)), some (.pd (.tuple (r.2.map fr))), some (.pd (.int (j : Int))), some (.pd (.tuple ((r.2.set j p).map fr))), none] μ4 = .ok ((.nx, [some (.ref l), some (.pd (gbD B)), some (.pd (.int (c : Int))), some (.pd (.int w)), some (.pd (fr r.1)), some (.pd (.tuple (r.2.map fr))), some (.pd (.int (j : Int))), some (.pd (.tuple ((r.2.set j p).map fr))), some (.pd (ceD [(r.1, r.2.set j p)]))]), μ4) := by
    simp -implicitDefEqProofs [p_law_spoilt_4, bindT, sizeLine_ge, ceD, ruD]
  have w1' : WC B.length [(r.1, r.2.set j p)] := ⟨by simp, by simp, fun y hy => by
    rw [List.mem_singleton.mp hy]
    refine ⟨k3.told, by simp [k3.len], fun q hq => ?_⟩
    rcases List.mem_or_eq_of_mem_set hq with hq | rfl
    · exact k3.bd q hq
    · exact hp⟩
  have w2' : WC B.length [r, r] := ⟨by simp, by simp, fun y hy => by
    simp only [List.mem_cons, List.not_mem_nil, or_false, or_self] at hy
    subst hy
    exact k3⟩
  obtain ⟨μ5, q5, e5, d5, b5, t5⟩ := told_ok b4 (by omega)
  have w3' : WC B.length [(q5, r.2)] := ⟨by simp, by simp, fun y hy => by
    rw [List.mem_singleton.mp hy]
    exact ⟨t5, k3.len, k3.bd⟩⟩
  have hbk : ∀ rs, (B.map ceD).set c (ceD rs) = (B.set c rs).map ceD := fun rs => by rw [List.map_set]
  -- the rules put in
  have last : ∀ (μ5 : Store) (rs : List Ru), p_law_spoilt_7 [some (.ref l), some (.pd (gbD B)), some (.pd (.int (c : Int))), some (.pd (.int w)), some (.pd (fr r.1)), some (.pd (.tuple (r.2.map fr))), some (.pd (.int (j : Int))), some (.pd (.tuple ((r.2.set j p).map fr))), some (.pd (ceD rs))] μ5 =
      .ok ((.rt (.pd (gbD (B.set c rs))), [some (.ref l), some (.pd (gbD B)), some (.pd (.int (c : Int))), some (.pd (.int w)), some (.pd (fr r.1)), some (.pd (.tuple (r.2.map fr))), some (.pd (.int (j : Int))), some (.pd (.tuple ((r.2.set j p).map fr))), some (.pd (ceD rs))]), μ5) := fun μ5 rs => by
    have := put_tup (va := 1) (vi := 2) (e := eVar 8) (env := [some (.ref l), some (.pd (gbD B)), some (.pd (.int (c : Int))), some (.pd (.int w)), some (.pd (fr r.1)), some (.pd (.tuple (r.2.map fr))), some (.pd (.int (j : Int))), some (.pd (.tuple ((r.2.set j p).map fr))), some (.pd (ceD rs))]) (μ := μ5) (μ' := μ5) (ds := B.map ceD) (j := c) (d := ceD rs) rfl rfl (v_var 8 rfl) (by simpa using hc) (by simp; omega)
    rw [hbk] at this
    unfold p_law_spoilt_7
    rw [v_ret, this]
    rfl
  have dd := ((d1.trans d2).trans d3).trans d4
  have hw : w = 0 ∨ w = 1 ∨ (w ≠ 0 ∧ w ≠ 1) := by omega
  rcases hw with rfl | rfl | ⟨n0, n1⟩
  · have s5 : p_law_spoilt_5 [some (.ref l), some (.pd (gbD B)), some (.pd (.int (c : Int))), some (.pd (.int 0)), some (.pd (fr r.1)), some (.pd (.tuple (r.2.map fr))), some (.pd (.int (j : Int))), some (.pd (.tuple ((r.2.set j p).map fr))), some (.pd (ceD [(r.1, r.2.set j p)]))] μ4 =
        .ok ((.nx, [some (.ref l), some (.pd (gbD B)), some (.pd (.int (c : Int))), some (.pd (.int 0)), some (.pd (fr r.1)), some (.pd (.tuple (r.2.map fr))), some (.pd (.int (j : Int))), some (.pd (.tuple ((r.2.set j p).map fr))), some (.pd (ceD [r, r]))]), μ4) := by
      have ha : fAdd (.tuple [ruD r]) (.tuple [ruD r]) = some (.tuple [ruD r, ruD r]) := add_tup (by simp)
      have hce : ceD [r] = .tuple [ruD r] := rfl
      have hce2 : ceD [r, r] = .tuple [ruD r, ruD r] := rfl
      have hz : fIx (.tuple [ruD r]) (.int 0) = some (ruD r) := by simp
      rw [hce2]
      simp -implicitDefEqProofs [p_law_spoilt_5, p_law_spoilt_5t, hc, k1, hce, hz, ha, bindT, sizeLine_ge]
    have s6 : p_law_spoilt_6 [some (.ref l), some (.pd (gbD B)), some (.pd (.int (c : Int))), some (.pd (.int 0)), some (.pd (fr r.1)), some (.pd (.tuple (r.2.map fr))), some (.pd (.int (j : Int))), some (.pd (.tuple ((r.2.set j p).map fr))), some (.pd (ceD [r, r]))] μ4 =
        .ok ((.nx, [some (.ref l), some (.pd (gbD B)), some (.pd (.int (c : Int))), some (.pd (.int 0)), some (.pd (fr r.1)), some (.pd (.tuple (r.2.map fr))), some (.pd (.int (j : Int))), some (.pd (.tuple ((r.2.set j p).map fr))), some (.pd (ceD [r, r]))]), μ4) := by
      simp -implicitDefEqProofs [p_law_spoilt_6]
    exact ⟨μ4, _, fnS_pd (ex := []) (by
      rw [List.append_nil]
      exact fnL_run ((congrFun (congrFun parts_law_spoilt _) _).trans ((seq_nx s0).trans ((seq_nx s1).trans ((seq_nx s2).trans ((seq_nx s3).trans ((seq_nx s4).trans ((seq_nx s5).trans ((seq_nx s6).trans (last μ4 [r, r]))))))))) rfl) dd b4, dd, b4.mono (by omega), wb_set W w2'⟩
  · have s5 : p_law_spoilt_5 [some (.ref l), some (.pd (gbD B)), some (.pd (.int (c : Int))), some (.pd (.int 1)), some (.pd (fr r.1)), some (.pd (.tuple (r.2.map fr))), some (.pd (.int (j : Int))), some (.pd (.tuple ((r.2.set j p).map fr))), some (.pd (ceD [(r.1, r.2.set j p)]))] μ4 =
        .ok ((.nx, [some (.ref l), some (.pd (gbD B)), some (.pd (.int (c : Int))), some (.pd (.int 1)), some (.pd (fr r.1)), some (.pd (.tuple (r.2.map fr))), some (.pd (.int (j : Int))), some (.pd (.tuple ((r.2.set j p).map fr))), some (.pd (ceD [(r.1, r.2.set j p)]))]), μ4) := by
      simp -implicitDefEqProofs [p_law_spoilt_5]
    have s6 : p_law_spoilt_6 [some (.ref l), some (.pd (gbD B)), some (.pd (.int (c : Int))), some (.pd (.int 1)), some (.pd (fr r.1)), some (.pd (.tuple (r.2.map fr))), some (.pd (.int (j : Int))), some (.pd (.tuple ((r.2.set j p).map fr))), some (.pd (ceD [(r.1, r.2.set j p)]))] μ4 =
        .ok ((.nx, [some (.ref l), some (.pd (gbD B)), some (.pd (.int (c : Int))), some (.pd (.int 1)), some (.pd (fr r.1)), some (.pd (.tuple (r.2.map fr))), some (.pd (.int (j : Int))), some (.pd (.tuple ((r.2.set j p).map fr))), some (.pd (ceD [(q5, r.2)]))]), μ5) := by
      simp -implicitDefEqProofs [p_law_spoilt_6, p_law_spoilt_6t, e5, bindT, sizeLine_ge, ceD, ruD]
    exact ⟨μ5, _, fnS_pd (ex := []) (by
      rw [List.append_nil]
      exact fnL_run ((congrFun (congrFun parts_law_spoilt _) _).trans ((seq_nx s0).trans ((seq_nx s1).trans ((seq_nx s2).trans ((seq_nx s3).trans ((seq_nx s4).trans ((seq_nx s5).trans ((seq_nx s6).trans (last μ5 [(q5, r.2)]))))))))) rfl) (dd.trans d5) b5, dd.trans d5, b5.mono (by omega), wb_set W w3'⟩
  · have s5 : p_law_spoilt_5 [some (.ref l), some (.pd (gbD B)), some (.pd (.int (c : Int))), some (.pd (.int w)), some (.pd (fr r.1)), some (.pd (.tuple (r.2.map fr))), some (.pd (.int (j : Int))), some (.pd (.tuple ((r.2.set j p).map fr))), some (.pd (ceD [(r.1, r.2.set j p)]))] μ4 =
        .ok ((.nx, [some (.ref l), some (.pd (gbD B)), some (.pd (.int (c : Int))), some (.pd (.int w)), some (.pd (fr r.1)), some (.pd (.tuple (r.2.map fr))), some (.pd (.int (j : Int))), some (.pd (.tuple ((r.2.set j p).map fr))), some (.pd (ceD [(r.1, r.2.set j p)]))]), μ4) := by
      simp -implicitDefEqProofs [p_law_spoilt_5, n0]
    have s6 : p_law_spoilt_6 [some (.ref l), some (.pd (gbD B)), some (.pd (.int (c : Int))), some (.pd (.int w)), some (.pd (fr r.1)), some (.pd (.tuple (r.2.map fr))), some (.pd (.int (j : Int))), some (.pd (.tuple ((r.2.set j p).map fr))), some (.pd (ceD [(r.1, r.2.set j p)]))] μ4 =
        .ok ((.nx, [some (.ref l), some (.pd (gbD B)), some (.pd (.int (c : Int))), some (.pd (.int w)), some (.pd (fr r.1)), some (.pd (.tuple (r.2.map fr))), some (.pd (.int (j : Int))), some (.pd (.tuple ((r.2.set j p).map fr))), some (.pd (ceD [(r.1, r.2.set j p)]))]), μ4) := by
      simp -implicitDefEqProofs [p_law_spoilt_6, n1]
    exact ⟨μ4, _, fnS_pd (ex := []) (by
      rw [List.append_nil]
      exact fnL_run ((congrFun (congrFun parts_law_spoilt _) _).trans ((seq_nx s0).trans ((seq_nx s1).trans ((seq_nx s2).trans ((seq_nx s3).trans ((seq_nx s4).trans ((seq_nx s5).trans ((seq_nx s6).trans (last μ4 [(r.1, r.2.set j p)]))))))))) rfl) dd b4, dd, b4.mono (by omega), wb_set W w1'⟩
/-- a drawn value -/
def Val (q : Rat) : Prop := q.num.natAbs ≤ 5 ∧ q.den ≤ 2
def valMenu : List PyData := [.tuple [.int 0, .int 1], .tuple [.int 1, .int 1], .tuple [.int (-1), .int 1], .tuple [.int 1, .int 2], .tuple [.int 3, .int 1], .tuple [.int (-5), .int 2]]
theorem val_menu : ∀ d ∈ valMenu, ∃ q, d = fr q ∧ Val q := by
  intro d hd
  simp only [valMenu, List.mem_cons, List.not_mem_nil, or_false] at hd
  rcases hd with rfl | rfl | rfl | rfl | rfl | rfl
  · exact ⟨_, fr_mk 0 1 (by decide) (by decide), by decide, by decide⟩
  · exact ⟨_, fr_mk 1 1 (by decide) (by decide), by decide, by decide⟩
  · exact ⟨_, fr_mk (-1) 1 (by decide) (by decide), by decide, by decide⟩
  · exact ⟨_, fr_mk 1 2 (by decide) (by decide), by decide, by decide⟩
  · exact ⟨_, fr_mk 3 1 (by decide) (by decide), by decide, by decide⟩
  · exact ⟨_, fr_mk (-5) 2 (by decide) (by decide), by decide, by decide⟩
theorem vals_ok {l k n : Nat} {μ : Store} (hb : BagAt l k μ) (hk : k ≤ 500000) (hn : n ≤ 5) :
    ∃ (μ' : Store) (vs : List Rat), F__law_few_values [.ref l, .pd (.int (n : Int))] μ = .ok (.pd (.tuple (vs.map fr)), μ') ∧ Dr l μ μ' ∧ BagAt l (k + 5) μ' ∧ vs.length = n ∧ ∀ q ∈ vs, Val q := by
  obtain ⟨μ1, xs, e1, d1, b1, l1, p1⟩ := lc_draw (l := l) (a := 1) (v := 2) (n := n) (elt := eCallS F__law_some (aCons (eVar 0) (aCons (eFrz (eLst (aCons (eTup (aCons (eC (.int 0)) (aCons (eC (.int 1)) aNil))) (aCons (eTup (aCons (eC (.int 1)) (aCons (eC (.int 1)) aNil))) (aCons (eTup (aCons (eNeg (eC (.int 1))) (aCons (eC (.int 1)) aNil))) (aCons (eTup (aCons (eC (.int 1)) (aCons (eC (.int 2)) aNil))) (aCons (eTup (aCons (eC (.int 3)) (aCons (eC (.int 1)) aNil))) (aCons (eTup (aCons (eNeg (eC (.int 5))) (aCons (eC (.int 2)) aNil))) aNil)))))))) aNil)))
    (env := [some (.ref l), some (.pd (.int (n : Int))), none]) (ea := eVar 1) (P := fun x => ∃ z, x = fr z ∧ Val z) (by decide : 2 < 3) (by simp) (by omega) (by omega) hb (fun d k' μ hk' b => by
      obtain ⟨μ', e, q1, q0, q2, q3⟩ := some_ok b (by omega) (ds := valMenu) (by decide) (by decide)
      simp only [valMenu] at q1
      exact ⟨μ', e, by simp -implicitDefEqProofs [q1, sizeLine_ge, wipeE], q0, q2, val_menu e q3⟩)
  obtain ⟨vs, rfl, hl, hv⟩ := all_frs p1
  rw [l1] at hl
  have b2 : BagAt l (k + 5) μ1 := b1.mono (by omega)
  refine ⟨μ1, vs, fnS_pd (ex := []) ?_ d1 b2, d1, b2, hl, hv⟩
  rw [List.append_nil]
  have s0 : p_law_few_values [some (.ref l), some (.pd (.int (n : Int))), none] μ = .ok ((.rt (.pd (.tuple (vs.map fr))), [some (.ref l), some (.pd (.int (n : Int))), none]), μ1) := by
    unfold p_law_few_values
    simp -implicitDefEqProofs [e1]
  exact fnL_run ((congrFun (congrFun parts_law_few_values _) _).trans s0) rfl
end P55

set_option Elab.async false
set_option linter.all false
set_option maxRecDepth 100000
set_option maxHeartbeats 1000000
/-! What can be shown and compared; _law_alike, _law_below, _law_is_small told. -/
namespace P55
open PySem PySem.Spec PyProof.Rows L2 Zd
structure Nc (L k : Nat) (d : PyData) : Prop where
  lay : d.canLay0 = true
  show_ : d.showable = true
  dp : d.depth ≤ k
  ln : d.shown.length ≤ L
theorem Nc.mono {L k L' k' : Nat} {d : PyData} (h : Nc L k d) (h1 : L ≤ L') (h2 : k ≤ k') : Nc L' k' d := ⟨h.lay, h.show_, Nat.le_trans h.dp h2, Nat.le_trans h.ln h1⟩
theorem Nc.int {i : Int} (h : i.natAbs < 2 ^ 1900) : Nc 2000 0 (.int i) := by
  have hl : i.natAbs.log2 < 1900 := log_lt (by decide) h
  refine ⟨by simp [PyData.canLay0], by simp [PyData.showable]; omega, by simp [PyData.depth], ?_⟩
  have := int_text_length_le (k := 1900) (by decide) hl
  show (Str.ofString (toString i)).length ≤ 2000
  rw [PySem.ofString_length]
  omega
theorem Nc.none : Nc 4 0 .none := ⟨rfl, rfl, by simp [PyData.depth], by decide +kernel⟩
theorem all_lay : ∀ {ds : List PyData}, (∀ d ∈ ds, d.canLay0 = true) → PyData.canLayAll0 ds = true
  | [], _ => rfl
  | d :: r, h => by
    have h1 := h d (by simp)
    have h2 := all_lay (ds := r) fun e he => h e (by simp [he])
    simp only [PyData.canLayAll0, h1, h2, Bool.and_self]
theorem all_show : ∀ {ds : List PyData}, (∀ d ∈ ds, d.showable = true) → PyData.showableAll ds = true
  | [], _ => rfl
  | d :: r, h => by
    have h1 := h d (by simp)
    have h2 := all_show (ds := r) fun e he => h e (by simp [he])
    simp only [PyData.showableAll, h1, h2, Bool.and_self]
theorem all_depth {k : Nat} : ∀ {ds : List PyData}, (∀ d ∈ ds, d.depth ≤ k) → PyData.depthAll ds ≤ k
  | [], _ => Nat.zero_le _
  | d :: r, h => by
    have h1 := h d (by simp)
    have h2 := all_depth (ds := r) fun e he => h e (by simp [he])
    simp only [PyData.depthAll]
    omega
theorem all_piled {L : Nat} : ∀ {ds : List PyData}, (∀ d ∈ ds, d.shown.length ≤ L) → piled (PyData.shownAll ds) ≤ (L + 2) * ds.length
  | [], _ => Nat.zero_le _
  | d :: r, h => by
    have h1 := h d (by simp)
    have h2 := all_piled (ds := r) fun e he => h e (by simp [he])
    rw [PyData.shownAll, piled_cons, List.length_cons, Nat.mul_succ]
    omega
theorem join_le (ts : List Str) : (Str.join ", " ts).length ≤ piled ts := by
  cases ts with
  | nil => exact Nat.le_of_eq (by rfl)
  | cons t r =>
    have := join_length_add (t :: r) (by simp)
    omega
theorem Nc.tup {L k : Nat} {ds : List PyData} (h : ∀ d ∈ ds, Nc L k d) : Nc ((L + 2) * ds.length + 3) (k + 1) (.tuple ds) := by
  refine ⟨by simpa [PyData.canLay0] using all_lay fun d hd => (h d hd).lay, by simpa [PyData.showable] using all_show fun d hd => (h d hd).show_, ?_, ?_⟩
  · have := all_depth fun d hd => (h d hd).dp
    simp only [PyData.depth]
    omega
  · have h1 := all_piled fun d hd => (h d hd).ln
    have h2 := join_le (PyData.shownAll ds)
    simp only [PyData.shown, tupleText]
    rw [strLen_append, strLen_append]
    have e1 : ((("(" : String) : Str)).length = 1 := rfl
    have e3 : (((if (PyData.shownAll ds).length == 1 then ",)" else ")" : String) : Str)).length ≤ 2 := by split <;> decide
    rw [e1]
    omega
theorem Nc.lst {L k : Nat} {ds : List PyData} (h : ∀ d ∈ ds, Nc L k d) : Nc ((L + 2) * ds.length + 3) (k + 1) (.list ds) := by
  refine ⟨by simpa [PyData.canLay0] using all_lay fun d hd => (h d hd).lay, by simpa [PyData.showable] using all_show fun d hd => (h d hd).show_, ?_, ?_⟩
  · have := all_depth fun d hd => (h d hd).dp
    simp only [PyData.depth]
    omega
  · have h1 := all_piled fun d hd => (h d hd).ln
    have h2 := join_le (PyData.shownAll ds)
    simp only [PyData.shown, listText_eq_join]
    rw [strLen_append, strLen_append]
    have e1 : ((("[" : String) : Str)).length = 1 := rfl
    have e3 : ((("]" : String) : Str)).length = 1 := rfl
    rw [e1, e3]
    omega
/-- a small fraction -/
def Sn (q : Rat) : Prop := q.num.natAbs < 2 ^ 1900 ∧ q.den < 2 ^ 1900
theorem Nc.fr {q : Rat} (h : Sn q) : Nc 4100 1 (fr q) := by
  refine (Nc.tup (ds := [.int q.num, .int (q.den : Int)]) (L := 2000) (k := 0) fun d hd => ?_).mono (by show 2002 * 2 + 3 ≤ 4100; decide) (by decide)
  simp only [List.mem_cons, List.not_mem_nil, or_false] at hd
  rcases hd with rfl | rfl
  · exact Nc.int h.1
  · exact Nc.int (by rw [Int.natAbs_natCast]; exact h.2)
theorem szl : sizeLine = 16777216 := by rfl
theorem repr_ok {L k : Nat} {d : PyData} (h : Nc L k d) (hL : L ≤ 16000000) (hk : k ≤ 60) : fRepr [d] = some (.str d.shown) := by
  unfold fRepr
  refine if_pos ⟨h.show_, PyData.hasDict_of_canLay d h.lay, ?_, Nat.le_trans h.dp hk⟩
  have := h.ln
  rw [szl]
  omega
theorem eq_same {L k : Nat} {d : PyData} (h : Nc L k d) (hk : k ≤ 60) : fEq d d = some (.bool true) := by
  have hs : SeqAt.shaped d = true := by
    unfold SeqAt.shaped
    have := h.dp
    rw [h.lay, decide_eq_true (by omega)]
    rfl
  have e1 : fEqD d d = some (.bool true) := by
    unfold fEqD
    rw [if_pos ⟨hs, hs⟩, SeqAt.eqv_refl d h.lay]
  unfold fEq
  cases d <;> first | (rw [e1]; rfl) | (simp [fEqS, e1])
theorem eq_str (x : Str) : fEq (.str x) (.str x) = some (.bool true) := by
  simp [fEq, fEqS]
theorem ne_str (x : Str) : fNe (.str x) (.str x) = some (.bool false) := by
  simp [fNe, fNeS]
theorem alike_ok {L k : Nat} {d : PyData} (h : Nc L k d) (hL : L ≤ 16000000) (hk : k ≤ 60) : F__law_alike [d, d] = .ok (.bool true) := by
  have e1 := eq_same h hk
  have e2 := repr_ok h hL hk
  have s0 : ev__law_alike [some (.pd d), some (.pd d)] [] = .ok ((.rt (.pd (.bool true)), [some (.pd d), some (.pd d)]), []) := by
    unfold ev__law_alike
    simp [e1, e2, eq_str]
  exact fnP_run s0 rfl rfl
theorem callS_ok {G : FnS} {ea : EvA} {env : Zd.Env} {μ μ1 μ2 : Store} {ds : List D} {d : D} (ha : ea env μ = .ok (ds, μ1)) (h : G ds μ1 = .ok (d, μ2)) : eCallS G ea env μ = .ok (d, μ2) := by
  rw [v_callS, ha]
  exact h
theorem set_ok {i : Nat} {a : EvE} {env : Zd.Env} {μ μ1 : Store} {d : D} (ha : a env μ = .ok (d, μ1)) (h : i < env.length) : sSet (.nm i) a env μ = .ok ((.nx, env.set i (some d)), μ1) := by
  rw [v_set, ha]
  simp [bindT, h]
theorem isVal_map (ds : List PyData) : (ds.map D.pd).all isVal = true := by
  induction ds with
  | nil => rfl
  | cons d r ih => simp [ih]
theorem derefs_map (μ : Store) (ds : List PyData) : derefs μ (ds.map D.pd) = some ds := by
  induction ds with
  | nil => rfl
  | cons d r ih => simp [ih]
theorem callP_ok {F : FnP} {ea : EvA} {env : Zd.Env} {μ μ1 : Store} {ds : List PyData} {r : PyData} (ha : ea env μ = .ok (ds.map .pd, μ1)) (h : F ds = .ok r) : eCallP F ea env μ = .ok (.pd r, μ1) := by
  rw [v_callP, ha]
  simp only [Out.ok_bind, derefs_map, h, isVal_map, Bool.true_or, if_true]
theorem call1 {F : FnP} {i : Nat} {env : Zd.Env} {μ : Store} {d r : PyData} (h : F [d] = .ok r) (he : env[i]? = some (some (.pd d))) : eCallP F (aCons (eVar i) aNil) env μ = .ok (.pd r, μ) := callP_ok (ds := [d]) (by simp [he]) h
theorem call2 {F : FnP} {i j : Nat} {env : Zd.Env} {μ : Store} {d e r : PyData} (h : F [d, e] = .ok r) (he : env[i]? = some (some (.pd d))) (hf : env[j]? = some (some (.pd e))) : eCallP F (aCons (eVar i) (aCons (eVar j) aNil)) env μ = .ok (.pd r, μ) := callP_ok (ds := [d, e]) (by simp [he, hf]) h
theorem call3 {F : FnP} {i j k : Nat} {env : Zd.Env} {μ : Store} {d e g r : PyData} (h : F [d, e, g] = .ok r) (he : env[i]? = some (some (.pd d))) (hf : env[j]? = some (some (.pd e))) (hg : env[k]? = some (some (.pd g))) : eCallP F (aCons (eVar i) (aCons (eVar j) (aCons (eVar k) aNil))) env μ = .ok (.pd r, μ) := callP_ok (ds := [d, e, g]) (by simp [he, hf, hg]) h
theorem call2e {F : FnP} {a b : EvE} {env : Zd.Env} {μ : Store} {d e r : PyData} (ha : a env μ = .ok (.pd d, μ)) (hb : b env μ = .ok (.pd e, μ)) (h : F [d, e] = .ok r) : eCallP F (aCons a (aCons b aNil)) env μ = .ok (.pd r, μ) := callP_ok (ds := [d, e]) (by simp [ha, hb]) h
theorem tst_ok {a : EvE} {env : Zd.Env} {μ μ1 : Store} {b : Bool} (h : a env μ = .ok (.pd (.bool b), μ1)) : eTst a env μ = .ok (b, μ1) := by
  rw [v_tst, h]
  rfl
theorem if_f {c : EvT} {a b : EvS} {env : Zd.Env} {μ μ1 : Store} {o : Out ((Fl × Zd.Env) × Store)} (h : c env μ = .ok (false, μ1)) (hb : b env μ1 = o) : sIf c a b env μ = o := by
  rw [v_sif, h]
  exact hb
theorem if_t {c : EvT} {a b : EvS} {env : Zd.Env} {μ μ1 : Store} {o : Out ((Fl × Zd.Env) × Store)} (h : c env μ = .ok (true, μ1)) (hb : a env μ1 = o) : sIf c a b env μ = o := by
  rw [v_sif, h]
  exact hb
theorem orT_f {a b : EvT} {env : Zd.Env} {μ μ1 : Store} {o : Out (Bool × Store)} (h : a env μ = .ok (false, μ1)) (hb : b env μ1 = o) : eOrT a b env μ = o := by
  rw [v_orT, h]
  exact hb
theorem andT_t {a b : EvT} {env : Zd.Env} {μ μ1 : Store} {o : Out (Bool × Store)} (h : a env μ = .ok (true, μ1)) (hb : b env μ1 = o) : eAndT a b env μ = o := by
  rw [v_andT, h]
  exact hb
theorem andT_f {a b : EvT} {env : Zd.Env} {μ μ1 : Store} (h : a env μ = .ok (false, μ1)) : eAndT a b env μ = .ok (false, μ1) := by
  rw [v_andT, h]
  rfl
theorem not_ok {a : EvT} {env : Zd.Env} {μ μ1 : Store} {b : Bool} (h : a env μ = .ok (b, μ1)) : eNotT a env μ = .ok (!b, μ1) := by
  rw [v_notT, h]
  rfl
theorem op2_ok {f : F2} {a b : EvE} {env : Zd.Env} {μ μ1 μ2 : Store} {x y z : PyData} (ha : a env μ = .ok (.pd x, μ1)) (hb : b env μ1 = .ok (.pd y, μ2)) (h : f x y = some z) : eOp2 f a b env μ = .ok (.pd z, μ2) := by
  rw [v_op2, ha, Out.ok_bind, hb]
  simp [h]
theorem var_ok {i : Nat} {env : Zd.Env} {μ : Store} {d : D} (h : env[i]? = some (some d)) : eVar i env μ = .ok (d, μ) := v_var i h
theorem lit_ok {d : PyData} {env : Zd.Env} {μ : Store} : eC d env μ = .ok (.pd d, μ) := rfl
theorem ix_ok {a b : EvE} {env : Zd.Env} {μ μ1 μ2 : Store} {d z : PyData} {i : Int} (ha : a env μ = .ok (.pd d, μ1)) (hb : b env μ1 = .ok (.pd (.int i), μ2)) (h : fIx d (.int i) = some z) : eIx a b env μ = .ok (.pd z, μ2) := by
  rw [v_ix, ha, Out.ok_bind, hb]
  simp [h]
theorem isN_ok {a : EvE} {env : Zd.Env} {μ μ1 : Store} {d : PyData} (h : a env μ = .ok (.pd d, μ1)) : eIsN a env μ = .ok (.pd (.bool (isNoneB d)), μ1) := by
  rw [v_isN, h]
  rfl
theorem notN_ok {a : EvE} {env : Zd.Env} {μ μ1 : Store} {d : PyData} (h : a env μ = .ok (.pd d, μ1)) : eNotN a env μ = .ok (.pd (.bool (!isNoneB d)), μ1) := by
  rw [v_notN, h]
  rfl
theorem Sn.of {q : Rat} {N D : Nat} (h : Bd N D q) (hN : N ≤ 2 ^ 1800) (hD : D ≤ 2 ^ 1800) : Sn q :=
  ⟨Nat.lt_of_le_of_lt (Nat.le_trans h.1 hN) (Nat.pow_lt_pow_right (by decide) (by decide)), Nat.lt_of_le_of_lt (Nat.le_trans h.2 hD) (Nat.pow_lt_pow_right (by decide) (by decide))⟩
theorem p18 {N : Nat} (h : N ≤ 2 ^ 20) : N ≤ 2 ^ 1800 := Nat.le_trans h (Nat.pow_le_pow_right (by decide) (by decide))
theorem Nc.pair {L k : Nat} {a b : PyData} (ha : Nc L k a) (hb : Nc L k b) : Nc ((L + 2) * 2 + 3) (k + 1) (.tuple [a, b]) := Nc.tup (ds := [a, b]) fun d hd => by
  simp only [List.mem_cons, List.not_mem_nil, or_false] at hd
  rcases hd with rfl | rfl
  · exact ha
  · exact hb
theorem Nc.tupL {L k : Nat} {ds : List PyData} (m : Nat) (h : ∀ d ∈ ds, Nc L k d) (hm : ds.length ≤ m) : Nc ((L + 2) * m + 3) (k + 1) (.tuple ds) := (Nc.tup h).mono (Nat.add_le_add_right (Nat.mul_le_mul_left _ hm) _) (Nat.le_refl _)
theorem Nc.frs {qs : List Rat} (h : ∀ q ∈ qs, Sn q) : ∀ d ∈ qs.map P55.fr, Nc 4100 1 d := fun d hd => by
  obtain ⟨q, hq, rfl⟩ := List.mem_map.mp hd
  exact Nc.fr (h q hq)
theorem ne_frs {qs : List Rat} (h : ∀ q ∈ qs, Sn q) : fNe (.list (qs.map fr)) (.list []) = some (.bool (!qs.isEmpty)) := by
  have e : fNeS (.list (qs.map fr)) (.list []) = none := rfl
  have c := Nc.lst (Nc.frs h)
  have h1 : SeqAt.shaped (.list (qs.map fr)) = true := by
    unfold SeqAt.shaped
    have := c.dp
    rw [c.lay, decide_eq_true (by omega)]
    rfl
  have h2 : SeqAt.shaped (.list []) = true := rfl
  have h3 : PyData.eqv (.list (qs.map fr)) (.list []) = qs.isEmpty := by
    cases qs <;> rfl
  simp [fNe, e, fNeD, h1, h2, h3]
/-- the book as it is shown -/
theorem gb_nc {B : List (List Ru)} (W : WB B) : Nc 2000000 10 (gbD B) := by
  have m5 := W.most
  have ru : ∀ c ∈ B, ∀ r ∈ c, Nc 60000 4 (ruD r) := fun c hc r hr => by
    have R := (W.ce c hc).ru r hr
    have h1 : Nc 25000 2 (fr r.1) := (Nc.fr (Sn.of R.told (p18 (by decide)) (p18 (by decide)))).mono (by decide) (by decide)
    have h2 : Nc 25000 2 (.tuple (r.2.map fr)) := (Nc.tupL 5 (Nc.frs fun q hq => Sn.of (R.bd q hq) (p18 (by decide)) (p18 (by decide))) (by rw [List.length_map, R.len]; exact m5)).mono (by decide) (by decide)
    exact (Nc.pair h1 h2).mono (by decide) (by decide)
  have cell : ∀ c ∈ B, Nc 300000 5 (ceD c) := fun c hc => by
    refine (Nc.tupL (ds := c.map ruD) (L := 60000) (k := 4) 4 (fun d hd => ?_) (by rw [List.length_map]; exact (W.ce c hc).most)).mono (by decide) (by decide)
    obtain ⟨r, hr, rfl⟩ := List.mem_map.mp hd
    exact ru c hc r hr
  refine (Nc.tupL (ds := B.map ceD) (L := 300000) (k := 5) 5 (fun d hd => ?_) (by rw [List.length_map]; exact m5)).mono (by decide) (by decide)
  obtain ⟨c, hc, rfl⟩ := List.mem_map.mp hd
  exact cell c hc
theorem scD_nc {B : List (List Ru)} (W : WB B) : Nc 2000000 10 (scD B.length (scs B)) := by
  have m5 := W.most
  cases h : scs B with
  | none => exact Nc.none.mono (by decide) (by decide)
  | some σ =>
    obtain ⟨Ds, Df, E⟩ := eb_of W h
    refine (Nc.tupL (ds := (List.range B.length).map fun i => fr ((σ i).getD 1)) (L := 4100) (k := 1) 5 (fun d hd => ?_) (by rw [List.length_map, List.length_range]; exact m5)).mono (by decide) (by decide)
    obtain ⟨i, hi, rfl⟩ := List.mem_map.mp hd
    exact Nc.fr (Sn.of (E.S.bd i (by simpa using hi)) (up2 (by decide)) (up2 (by decide)))
theorem below_ok {a b : Rat} (ha : Sm a) (hb : Sm b) : F__law_below [fr a, fr b] = .ok (.bool (decide (a < b))) := by
  have c1 : CMulW a.num (b.den : Int) := cm ha.num hb.den
  have c2 : CMulW b.num (a.den : Int) := cm hb.num ha.den
  have e : decide (a.num * (b.den : Int) < b.num * (a.den : Int)) = decide (a < b) := by
    rw [decide_eq_decide, lt_iff]
    omega
  have s0 : ev__law_below [some (.pd (fr a)), some (.pd (fr b))] [] = .ok ((.rt (.pd (.bool (decide (a < b)))), [some (.pd (fr a)), some (.pd (fr b))]), []) := by
    unfold ev__law_below
    simp [c1, c2, e]
  exact fnP_run s0 rfl rfl
theorem small_ok {n : Nat} (hn : n ≤ 5) {x : Nat → Rat} (hx : ∀ i, i < n → Sn (x i)) : F__law_is_small [.list [.tuple (vecD n x)]] = .ok (.bool ((List.range n).all fun i => decide ((x i).den ≤ 10000))) := by
  have c1 : ∀ e1 : Option D, eLcD [2] (.nm 2) (iTp (eVar 1)) (eTst (eOp2 fGt (eIx (eVar 2) (eC (.int 1))) (eC (.int 10000)))) (eVar 2) [some (.pd (.list [.tuple (vecD n x)])), some (.pd (.tuple (vecD n x))), e1] [] = .ok (((List.range n).filter fun i => !decide ((x i).den ≤ 10000)).map (fun i => D.pd (fr (x i))), []) := fun e1 => by
    have i1 := tp_ok (a := eVar 1) (env := [some (.pd (.list [.tuple (vecD n x)])), some (.pd (.tuple (vecD n x))), e1]) (μ := []) (μ1 := []) (ds := vecD n x) (v_var 1 rfl)
    unfold vecD at i1
    rw [List.map_map] at i1
    have h1 := comp_filA (g := []) (T := .nm 2) (μ := []) (tst := eTst (eOp2 fGt (eIx (eVar 2) (eC (.int 1))) (eC (.int 10000)))) (elt := eVar 2) (env := wipeE [some (.pd (.list [.tuple (vecD n x)])), some (.pd (.tuple (vecD n x))), e1] [2]) held_nil (fun i => D.pd (fr (x i))) (fun i => D.pd (fr (x i))) (fun i => !decide ((x i).den ≤ 10000)) (List.range n) (fun i hi => by
      refine ⟨[some (.pd (.list [.tuple (vecD n x)])), some (.pd (.tuple (vecD n x))), some (.pd (fr (x i)))], by simp [bindT, wipeE], ?_, fun _ => by simp⟩
      have e : decide ((10000 : Int) < ((x i).den : Int)) = !decide ((x i).den ≤ 10000) := by
        by_cases h : (x i).den ≤ 10000
        · rw [decide_eq_true h, decide_eq_false (by omega)]
          rfl
        · rw [decide_eq_false h, decide_eq_true (by omega)]
          rfl
      simp [e])
    exact lcD_eq i1 (by rw [List.length_map, List.length_range]; exact sizeLine_ge (by omega)) h1
  have hq : ((List.range n).filter fun i => !decide ((x i).den ≤ 10000)).map (fun i => fr (x i)) = (((List.range n).filter fun i => !decide ((x i).den ≤ 10000)).map x).map fr := by rw [List.map_map]; rfl
  have hne := ne_frs (qs := ((List.range n).filter fun i => !decide ((x i).den ≤ 10000)).map x) (fun q hq => by
    obtain ⟨i, hi, rfl⟩ := List.mem_map.mp hq
    exact hx i (by simp at hi; exact hi.1))
  rw [← hq] at hne
  have hall : (((List.range n).filter fun i => !decide ((x i).den ≤ 10000)).map x).isEmpty = (List.range n).all fun i => decide ((x i).den ≤ 10000) := by
    rw [Bool.eq_iff_iff, List.isEmpty_iff, List.map_eq_nil_iff, List.filter_eq_nil_iff]
    simp
  rw [hall] at hne
  have tst : ∀ e1 : Option D, eTst (eOp2 fNe (eFrz (asF (eLcD [2] (.nm 2) (iTp (eVar 1)) (eTst (eOp2 fGt (eIx (eVar 2) (eC (.int 1))) (eC (.int 10000)))) (eVar 2)))) (eFrz (eLst aNil))) [some (.pd (.list [.tuple (vecD n x)])), some (.pd (.tuple (vecD n x))), e1] [] = .ok (!(List.range n).all fun i => decide ((x i).den ≤ 10000), []) := fun e1 => by
    have hf : eFrz (asF (eLcD [2] (.nm 2) (iTp (eVar 1)) (eTst (eOp2 fGt (eIx (eVar 2) (eC (.int 1))) (eC (.int 10000)))) (eVar 2))) [some (.pd (.list [.tuple (vecD n x)])), some (.pd (.tuple (vecD n x))), e1] [] = .ok (.pd (.list (((List.range n).filter fun i => !decide ((x i).den ≤ 10000)).map fun i => fr (x i))), []) := by
      rw [v_frz, v_asF, c1 e1]
      simp
    have hl : eFrz (eLst aNil) [some (.pd (.list [.tuple (vecD n x)])), some (.pd (.tuple (vecD n x))), e1] [] = .ok (.pd (.list []), []) := by simp
    exact tst_ok (op2_ok hf hl hne)
  have c2 := comp_filA (g := []) (T := .nm 1) (μ := []) (tst := eTst (eOp2 fNe (eFrz (asF (eLcD [2] (.nm 2) (iTp (eVar 1)) (eTst (eOp2 fGt (eIx (eVar 2) (eC (.int 1))) (eC (.int 10000)))) (eVar 2)))) (eFrz (eLst aNil)))) (elt := eC (.int 1)) (env := wipeE [some (.pd (.list [.tuple (vecD n x)])), none, none] [1]) held_nil (fun _ : Unit => D.pd (.tuple (vecD n x))) (fun _ => D.pd (.int 1)) (fun _ => !(List.range n).all fun i => decide ((x i).den ≤ 10000)) [()] (fun _ _ =>
    ⟨[some (.pd (.list [.tuple (vecD n x)])), some (.pd (.tuple (vecD n x))), none], by simp [bindT, wipeE], tst none, fun _ => rfl⟩)
  have i2 := lst_ok (a := eVar 0) (env := [some (.pd (.list [.tuple (vecD n x)])), none, none]) (μ := []) (μ1 := []) (ds := [.tuple (vecD n x)]) (v_var 0 rfl)
  have l2 := lcD_eq (vs := [1]) i2 (sizeLine_ge (by simp)) c2
  have s0 : p_law_is_small [some (.pd (.list [.tuple (vecD n x)])), none, none] [] = .ok ((.rt (.pd (.bool ((List.range n).all fun i => decide ((x i).den ≤ 10000)))), [some (.pd (.list [.tuple (vecD n x)])), none, none]), []) := by
    have hf : eFrz (asF (eLcD [1] (.nm 1) (iLst (eVar 0)) (eTst (eOp2 fNe (eFrz (asF (eLcD [2] (.nm 2) (iTp (eVar 1)) (eTst (eOp2 fGt (eIx (eVar 2) (eC (.int 1))) (eC (.int 10000)))) (eVar 2)))) (eFrz (eLst aNil)))) (eC (.int 1)))) [some (.pd (.list [.tuple (vecD n x)])), none, none] [] = .ok (.pd (.list (if (List.range n).all (fun i => decide ((x i).den ≤ 10000)) = true then [] else [.int 1])), []) := by
      rw [v_frz, v_asF, l2]
      cases (List.range n).all (fun i => decide ((x i).den ≤ 10000)) <;> rfl
    have hl : eFrz (eLst aNil) [some (.pd (.list [.tuple (vecD n x)])), none, none] [] = .ok (.pd (.list []), []) := by simp
    have he : fEq (.list (if (List.range n).all (fun i => decide ((x i).den ≤ 10000)) = true then [] else [.int 1])) (.list []) = some (.bool ((List.range n).all fun i => decide ((x i).den ≤ 10000))) := by
      cases (List.range n).all (fun i => decide ((x i).den ≤ 10000)) <;> rfl
    unfold p_law_is_small
    rw [v_ret, op2_ok hf hl he]
    rfl
  exact fnP_run ((congrFun (congrFun parts_law_is_small _) _).trans s0) rfl rfl
end P55

set_option Elab.async false
set_option linter.all false
set_option maxRecDepth 100000
set_option maxHeartbeats 1000000
/-! _law_is_energy_right: True of every even book. -/
namespace P55
open PySem PySem.Spec PyProof.Rows L2 Zd
theorem callX_ok {F : FnX} {ea : EvA} {env : Zd.Env} {μ μ1 : Store} {ds : List PyData} {r : PyData} (ha : ea env μ = .ok (ds.map .pd, μ1)) (h : F ds = .ok r) : eCallX F ea env μ = .ok (.pd r, μ1) := by
  rw [v_callX, ha]
  simp only [Out.ok_bind, derefs_map, h, isVal_map, Bool.true_or, if_true]
theorem callX2 {F : FnX} {i j : Nat} {env : Zd.Env} {μ : Store} {d e r : PyData} (h : F [d, e] = .ok r) (he : env[i]? = some (some (.pd d))) (hf : env[j]? = some (some (.pd e))) : eCallX F (aCons (eVar i) (aCons (eVar j) aNil)) env μ = .ok (.pd r, μ) := callX_ok (ds := [d, e]) (by simp [he, hf]) h
theorem tru_ok {a : EvE} {env : Zd.Env} {μ μ1 : Store} {b : Bool} (h : a env μ = .ok (.pd (.bool b), μ1)) : eTru a env μ = .ok (b, μ1) := by
  rw [v_tru, h]
  rfl
/-- values that stay small -/
structure Vx (n M : Nat) (x : Nat → Rat) : Prop where
  ab : ∀ i, i < n → Ab M (x i)
  den : ∀ i, i < n → (x i).den ≤ 10000
theorem Vx.xs {n M : Nat} {x : Nat → Rat} (V : Vx n M x) (hn : n ≤ 5) (hM : M ≤ 2 ^ 67) : ∃ D N, Xs n D N x := by
  obtain ⟨D, d1, d2, d3⟩ := common (N := M * 10000) (M := 10000) (by decide) n fun i hi => (V.ab i hi).bd (V.den i hi)
  have p5 : 10000 ^ n ≤ 2 ^ 70 := Nat.le_trans (Nat.pow_le_pow_left (show 10000 ≤ 2 ^ 14 by decide) _) (by
    rw [← Nat.pow_mul]
    exact Nat.pow_le_pow_right (by decide) (by omega))
  refine ⟨D, M * 10000 * 10000 ^ n, d3, d1, Nat.le_trans d2 p5, ?_⟩
  have h1 : M * 10000 ≤ 2 ^ 67 * 2 ^ 14 := Nat.mul_le_mul hM (by decide)
  have h2 := Nat.mul_le_mul h1 p5
  rw [← Nat.pow_add, ← Nat.pow_add] at h2
  exact h2
section
variable {B : List (List Ru)} {s x : Nat → Rat} {Ds Df D N : Nat}
theorem ene_fx (E : Eb B s Ds Df) (X : Xs B.length D N x) : Fx (Ds * Df * (D * D)) (2 ^ 1333) (ene B.length (fac B) s x) := by
  have n5 := E.W.most
  rw [ene_form fun i hi => (sgl_get E.sg hi).2]
  have h1 := Fx.tot (D := Ds * Df * (D * D)) (N := B.length * 2 ^ 1328) (g := fun i => tot (fun j => mat (fac B) s i j * (x i * x j)) B.length) B.length (fun i' hi' => Fx.tot B.length fun j hj => term_fx E X hi' hj)
  refine h1.mono ?_
  have a1 : B.length * (B.length * 2 ^ 1328) ≤ 5 * (5 * 2 ^ 1328) := Nat.mul_le_mul n5 (Nat.mul_le_mul n5 (Nat.le_refl _))
  have e : 2 ^ 1333 = 32 * 2 ^ 1328 := by rw [show 1333 = 5 + 1328 from rfl, Nat.pow_add]
  rw [e]
  omega
theorem ene_bd (E : Eb B s Ds Df) (X : Xs B.length D N x) : Bd (2 ^ 1333) (2 ^ 1040) (ene B.length (fac B) s x) := by
  obtain ⟨dd1, dd2⟩ := E.dd
  obtain ⟨xd1, xd2⟩ := X.dd
  have D2 : Ds * Df * (D * D) ≤ 2 ^ 1040 := by
    have := Nat.mul_le_mul dd2 xd2
    rw [← Nat.pow_add] at this
    exact this
  exact ((ene_fx E X).bd (Nat.mul_pos dd1 xd1)).mono (Nat.le_refl _) D2
theorem ene_sm (E : Eb B s Ds Df) (X : Xs B.length D N x) : Sm (ene B.length (fac B) s x) := (ene_bd E X).sm (Nat.pow_lt_pow_right (by decide) (by decide)) (Nat.pow_lt_pow_right (by decide) (by decide))
theorem ene_nc (E : Eb B s Ds Df) (X : Xs B.length D N x) : Nc 4100 1 (fr (ene B.length (fac B) s x)) := Nc.fr (Sn.of (ene_bd E X) (up2 (by decide)) (up2 (by decide)))
theorem rd_bd (E : Eb B s Ds Df) (X : Xs B.length D N x) {i : Nat} (hi : i < B.length) : Bd (2 ^ 490) (2 ^ 395) (rd B.length (fac B) x i) := ((rd_fx E X hi).bd (fd E X).1).mono (Nat.le_refl _) (fd E X).2
theorem rd_ab (W : WB B) {M : Nat} (V : Vx B.length M x) {i : Nat} (hi : i < B.length) : Ab (6000 * M) (rd B.length (fac B) x i) := by
  have n5 := W.most
  have := Ab.tot (M := 1200 * M) (g := fun k => fac B i k * x k) B.length fun k hk => (Ab.of_bd ((gb_Fac W).fb i k hi hk)).mul (V.ab k hk)
  refine this.mono ?_
  have h1 : B.length * (1200 * M) ≤ 5 * (1200 * M) := Nat.mul_le_mul n5 (Nat.le_refl _)
  omega
theorem xs_bd {n : Nat} (X : Xs n D N x) {i : Nat} (hi : i < n) : Bd (2 ^ 490) (2 ^ 395) (x i) := ((X.fx i hi).bd X.d1).mono (Nat.le_trans X.d3 (up2 (by decide))) (Nat.le_trans X.d2 (up2 (by decide)))
theorem vec_upv {n c : Nat} (hc : c < n) (q : Rat) : (vecD n x).set c (fr q) = vecD n (upv x c q) := vecD_set hc
def nudge : List PyData := [.tuple [.int 1, .int 7], .tuple [.int (-1), .int 3], .tuple [.int 5, .int 1]]
theorem nudge_ok : ∀ d ∈ nudge, ∃ t, d = fr t ∧ Bd 5 7 t ∧ t ≠ 0 := by
  intro d hd
  simp only [nudge, List.mem_cons, List.not_mem_nil, or_false] at hd
  rcases hd with rfl | rfl | rfl
  · exact ⟨_, fr_mk 1 7 (by decide) (by decide), ⟨by decide, by decide⟩, by decide⟩
  · exact ⟨_, fr_mk (-1) 3 (by decide) (by decide), ⟨by decide, by decide⟩, by decide⟩
  · exact ⟨_, fr_mk 5 1 (by decide) (by decide), ⟨by decide, by decide⟩, by decide⟩
theorem Bd.plus {a b : Rat} {N D M E : Nat} (ha : Bd N D a) (hb : Bd M E b) : Bd (N * E + M * D) (D * E) (a + b) := by
  rw [← divInt_add]
  refine Bd.of_divInt (den_mul_ne a b) ?_ ?_
  · have h1 : (a.num * (b.den : Int)).natAbs ≤ N * E := by
      rw [Int.natAbs_mul, Int.natAbs_natCast]
      exact Nat.mul_le_mul ha.1 hb.2
    have h2 : (b.num * (a.den : Int)).natAbs ≤ M * D := by
      rw [Int.natAbs_mul, Int.natAbs_natCast]
      exact Nat.mul_le_mul hb.1 ha.2
    omega
  · rw [Int.natAbs_mul, Int.natAbs_natCast, Int.natAbs_natCast]
    exact Nat.mul_le_mul ha.2 hb.2
/-- the frame of _law_is_energy_right -/
abbrev RE (l : Nat) (B : List (List Ru)) (s x : Nat → Rat) (e4 e5 e6 e7 e8 : Option Zd.D) : Zd.Env := [some (.ref l), some (.pd (gbD B)), some (.pd (.tuple (vecD B.length s))), some (.pd (.tuple (vecD B.length x))), e4, e5, e6, e7, e8]
/-- one prompt turn: all is as it ought to be; either on, or True -/
theorem right_turn {l k c M : Nat} {μ : Store} (E : Eb B s Ds Df) (V : Vx B.length M x) (hM : 6000 * M + 5 ≤ 2 ^ 67) (hc : c < B.length) (hb : BagAt l k μ) (hk : k ≤ 800000) :
    ∃ μ', Dr l μ μ' ∧ BagAt l (k + 1) μ' ∧
      ((∃ x', p_law_is_energy_right_1_b (RE l B s x (some (.pd (.int (c : Int)))) none none none none) μ = .ok ((.nx, RE l B s x' none none none none none), μ') ∧ Vx B.length (6000 * M) x') ∨
        ∃ env', p_law_is_energy_right_1_b (RE l B s x (some (.pd (.int (c : Int)))) none none none none) μ = .ok ((.rt (.pd (.bool true)), env'), μ')) := by
  have n5 := E.W.most
  obtain ⟨D, N, X⟩ := V.xs n5 (show M ≤ 2 ^ 67 by omega)
  have en := energy_ok E X
  have le := law_energy_ok E X
  have al := alike_ok (ene_nc E X) (by decide) (by decide)
  have vo := value_ok E X hc
  obtain ⟨r, rest, k1, k2, k3⟩ := cel_cons E.W hc
  have er := ru_row E.W hc
  rw [k2] at er
  have dg := (sgl_get E.sg hc).2
  have s0 : p_law_is_energy_right_1_b_0 (RE l B s x (some (.pd (.int (c : Int)))) none none none none) μ = .ok ((.nx, RE l B s x (some (.pd (.int (c : Int)))) (some (.pd (fr (ene B.length (fac B) s x)))) none none none), μ) :=
    set_ok (callX2 en rfl rfl) (by decide : 5 < 9)
  have s1 : p_law_is_energy_right_1_b_1 (RE l B s x (some (.pd (.int (c : Int)))) (some (.pd (fr (ene B.length (fac B) s x)))) none none none) μ = .ok ((.nx, RE l B s x (some (.pd (.int (c : Int)))) (some (.pd (fr (ene B.length (fac B) s x)))) none none none), μ) :=
    if_f (not_ok (tst_ok (call2e (v_var 5 rfl) (call3 le rfl rfl rfl) al))) rfl
  have ve : eCallP F__law_value (aCons (eTup (aCons (eTup (aCons (eC (.int 0)) (aCons (eC (.int 1)) aNil))) (aCons (eIx (eIx (eIx (eVar 1) (eVar 4)) (eC (.int 0))) (eC (.int 1))) aNil))) (aCons (eVar 3) aNil)) (RE l B s x (some (.pd (.int (c : Int)))) (some (.pd (fr (ene B.length (fac B) s x)))) none none none) μ = .ok (.pd (fr (rd B.length (fac B) x c)), μ) :=
    call2e (by simp -implicitDefEqProofs [hc, k1, ce_at0, ru_at1, er, sizeLine_ge]) (v_var 3 rfl) vo
  have s2 : p_law_is_energy_right_1_b_2 (RE l B s x (some (.pd (.int (c : Int)))) (some (.pd (fr (ene B.length (fac B) s x)))) none none none) μ = .ok ((.nx, RE l B s x (some (.pd (.int (c : Int)))) (some (.pd (fr (ene B.length (fac B) s x)))) (some (.pd (.tuple (vecD B.length (upv x c (rd B.length (fac B) x c)))))) none none), μ) := by
    have := put_tup (va := 3) (vi := 4) (ds := vecD B.length x) (j := c) rfl rfl ve (by simpa using hc) (by simp; omega)
    rw [vec_upv hc] at this
    exact set_ok this (by decide : 6 < 9)
  have snL : ∀ i, i < B.length → Sn (upv x c (rd B.length (fac B) x c) i) := fun i hi => by
    unfold upv
    split
    · exact Sn.of (rd_bd E X hc) (up2 (by decide)) (up2 (by decide))
    · exact Sn.of (xs_bd X hi) (up2 (by decide)) (up2 (by decide))
  have sm1 := small_ok n5 snL
  have tst : ∀ (i : Nat) (env : Zd.Env) (μ : Store), env[i]? = some (some (.pd (.tuple (vecD B.length (upv x c (rd B.length (fac B) x c)))))) → eNotT (eTru (eCallP F__law_is_small (aCons (eFrz (eLst (aCons (eVar i) aNil))) aNil))) env μ = .ok (!(List.range B.length).all fun i => decide ((upv x c (rd B.length (fac B) x c) i).den ≤ 10000), μ) := fun i env μ h =>
    not_ok (tru_ok (callP_ok (ds := [.list [.tuple (vecD B.length (upv x c (rd B.length (fac B) x c)))]]) (by simp [h, sizeLine_ge]) sm1))
  cases hsm : (List.range B.length).all fun i => decide ((upv x c (rd B.length (fac B) x c) i).den ≤ 10000) with
  | false =>
    rw [hsm] at tst
    have s3 : p_law_is_energy_right_1_b_3 (RE l B s x (some (.pd (.int (c : Int)))) (some (.pd (fr (ene B.length (fac B) s x)))) (some (.pd (.tuple (vecD B.length (upv x c (rd B.length (fac B) x c)))))) none none) μ = .ok ((.rt (.pd (.bool true)), RE l B s x (some (.pd (.int (c : Int)))) (some (.pd (fr (ene B.length (fac B) s x)))) (some (.pd (.tuple (vecD B.length (upv x c (rd B.length (fac B) x c)))))) none none), μ) :=
      if_t (tst 6 _ _ rfl) rfl
    refine ⟨μ, .refl hb, hb.mono (by omega), .inr ⟨RE l B s x none none none none none, ?_⟩⟩
    · unfold p_law_is_energy_right_1_b
      rw [v_forget, seq_nx s0, seq_nx s1, seq_nx s2, seq_rt s3]
      rfl
  | true =>
    rw [hsm] at tst
    have VL : Vx B.length (6000 * M) (upv x c (rd B.length (fac B) x c)) := by
      refine ⟨fun i hi => ?_, fun i hi => ?_⟩
      · unfold upv
        split
        · exact rd_ab E.W V hc
        · exact (V.ab i hi).mono (by omega)
      · rw [List.all_eq_true] at hsm
        exact of_decide_eq_true (hsm i (by simpa using hi))
    obtain ⟨D', N', XL⟩ := VL.xs n5 (by omega)
    have enL := energy_ok E XL
    have ele := ene_le (x := x) hc dg E.S.sym (E.S.pos c hc)
    have bl := below_ok (ene_sm E X) (ene_sm E XL)
    rw [decide_eq_false (Rat.not_lt.mpr ele)] at bl
    have s3 : p_law_is_energy_right_1_b_3 (RE l B s x (some (.pd (.int (c : Int)))) (some (.pd (fr (ene B.length (fac B) s x)))) (some (.pd (.tuple (vecD B.length (upv x c (rd B.length (fac B) x c)))))) none none) μ = .ok ((.nx, RE l B s x (some (.pd (.int (c : Int)))) (some (.pd (fr (ene B.length (fac B) s x)))) (some (.pd (.tuple (vecD B.length (upv x c (rd B.length (fac B) x c)))))) none none), μ) :=
      if_f (tst 6 _ _ rfl) rfl
    have s4 : p_law_is_energy_right_1_b_4 (RE l B s x (some (.pd (.int (c : Int)))) (some (.pd (fr (ene B.length (fac B) s x)))) (some (.pd (.tuple (vecD B.length (upv x c (rd B.length (fac B) x c)))))) none none) μ = .ok ((.nx, RE l B s x (some (.pd (.int (c : Int)))) (some (.pd (fr (ene B.length (fac B) s x)))) (some (.pd (.tuple (vecD B.length (upv x c (rd B.length (fac B) x c)))))) (some (.pd (fr (ene B.length (fac B) s (upv x c (rd B.length (fac B) x c)))))) none), μ) :=
      set_ok (callX2 enL rfl rfl) (by decide : 7 < 9)
    have s5 : p_law_is_energy_right_1_b_5 (RE l B s x (some (.pd (.int (c : Int)))) (some (.pd (fr (ene B.length (fac B) s x)))) (some (.pd (.tuple (vecD B.length (upv x c (rd B.length (fac B) x c)))))) (some (.pd (fr (ene B.length (fac B) s (upv x c (rd B.length (fac B) x c)))))) none) μ = .ok ((.nx, RE l B s x (some (.pd (.int (c : Int)))) (some (.pd (fr (ene B.length (fac B) s x)))) (some (.pd (.tuple (vecD B.length (upv x c (rd B.length (fac B) x c)))))) (some (.pd (fr (ene B.length (fac B) s (upv x c (rd B.length (fac B) x c)))))) none), μ) :=
      if_f (tru_ok (call2 bl rfl rfl)) rfl
    obtain ⟨μ1, d, g1, d1, b1, hd⟩ := some_ok hb (by omega) (ds := nudge) (by decide) (by decide)
    obtain ⟨t, rfl, ht, ht0⟩ := nudge_ok d hd
    simp only [nudge] at g1
    have rsm : Sm (rd B.length (fac B) x c) := rd_sm E X hc
    have pl := L_plus_ok rsm (ht.sm (N := 5) (D := 7) (Nat.lt_of_lt_of_le (by decide : 5 < 2 ^ 10) (up2 (by decide))) (Nat.lt_of_lt_of_le (by decide : 7 < 2 ^ 10) (up2 (by decide))))
    have atc : atI (vecD B.length (upv x c (rd B.length (fac B) x c))) (c : Int) = some (fr (rd B.length (fac B) x c)) := by
      rw [at_vec hc]
      simp [upv]
    have oe : eCallP F__law_plus (aCons (eIx (eVar 6) (eVar 4)) (aCons (eCallS F__law_some (aCons (eVar 0) (aCons (eFrz (eLst (aCons (eTup (aCons (eC (.int 1)) (aCons (eC (.int 7)) aNil))) (aCons (eTup (aCons (eNeg (eC (.int 1))) (aCons (eC (.int 3)) aNil))) (aCons (eTup (aCons (eC (.int 5)) (aCons (eC (.int 1)) aNil))) aNil))))) aNil))) aNil)) (RE l B s x (some (.pd (.int (c : Int)))) (some (.pd (fr (ene B.length (fac B) s x)))) (some (.pd (.tuple (vecD B.length (upv x c (rd B.length (fac B) x c)))))) (some (.pd (fr (ene B.length (fac B) s (upv x c (rd B.length (fac B) x c)))))) none) μ = .ok (.pd (fr (rd B.length (fac B) x c + t)), μ1) := by
      refine callP_ok (ds := [fr (rd B.length (fac B) x c), fr t]) ?_ pl
      simp -implicitDefEqProofs [atc, sizeLine_ge, g1]
    have s6 : p_law_is_energy_right_1_b_6 (RE l B s x (some (.pd (.int (c : Int)))) (some (.pd (fr (ene B.length (fac B) s x)))) (some (.pd (.tuple (vecD B.length (upv x c (rd B.length (fac B) x c)))))) (some (.pd (fr (ene B.length (fac B) s (upv x c (rd B.length (fac B) x c)))))) none) μ = .ok ((.nx, RE l B s x (some (.pd (.int (c : Int)))) (some (.pd (fr (ene B.length (fac B) s x)))) (some (.pd (.tuple (vecD B.length (upv x c (rd B.length (fac B) x c)))))) (some (.pd (fr (ene B.length (fac B) s (upv x c (rd B.length (fac B) x c)))))) (some (.pd (.tuple (vecD B.length (upv x c (rd B.length (fac B) x c + t))))))), μ1) := by
      have := put_tup (va := 6) (vi := 4) (ds := vecD B.length (upv x c (rd B.length (fac B) x c))) (j := c) rfl rfl oe (by simpa using hc) (by simp; omega)
      rw [vec_upv hc, upv_upv] at this
      exact set_ok this (by decide : 8 < 9)
    have snO : ∀ i, i < B.length → Sn (upv x c (rd B.length (fac B) x c + t) i) := fun i hi => by
      unfold upv
      split
      · refine Sn.of ((rd_bd E X hc).plus ht) ?_ ?_
        · have h1 : 2 ^ 490 * 7 ≤ 2 ^ 493 := Nat.le_trans (Nat.mul_le_mul_left (2 ^ 490) (show 7 ≤ 2 ^ 3 by decide)) (by rw [← Nat.pow_add]; exact Nat.le_refl _)
          have h2 : 5 * 2 ^ 395 ≤ 2 ^ 493 := Nat.le_trans (Nat.mul_le_mul_right (2 ^ 395) (show 5 ≤ 2 ^ 3 by decide)) (by rw [← Nat.pow_add]; exact up2 (by decide))
          refine Nat.le_trans (Nat.add_le_add h1 h2) ?_
          rw [← Nat.two_mul, ← Nat.pow_succ']
          exact up2 (by decide)
        · have h1 : 2 ^ 395 * 7 ≤ 2 ^ 395 * 2 ^ 3 := Nat.mul_le_mul_left _ (by decide)
          rw [← Nat.pow_add] at h1
          exact Nat.le_trans h1 (up2 (by decide))
      · exact Sn.of (xs_bd X hi) (up2 (by decide)) (up2 (by decide))
    have sm2 := small_ok n5 snO
    have t7 : eTru (eCallP F__law_is_small (aCons (eFrz (eLst (aCons (eVar 8) aNil))) aNil)) (RE l B s x (some (.pd (.int (c : Int)))) (some (.pd (fr (ene B.length (fac B) s x)))) (some (.pd (.tuple (vecD B.length (upv x c (rd B.length (fac B) x c)))))) (some (.pd (fr (ene B.length (fac B) s (upv x c (rd B.length (fac B) x c)))))) (some (.pd (.tuple (vecD B.length (upv x c (rd B.length (fac B) x c + t))))))) μ1 = .ok ((List.range B.length).all fun i => decide ((upv x c (rd B.length (fac B) x c + t) i).den ≤ 10000), μ1) :=
      tru_ok (callP_ok (ds := [.list [.tuple (vecD B.length (upv x c (rd B.length (fac B) x c + t)))]]) (by simp [sizeLine_ge]) sm2)
    have s7 : p_law_is_energy_right_1_b_7 (RE l B s x (some (.pd (.int (c : Int)))) (some (.pd (fr (ene B.length (fac B) s x)))) (some (.pd (.tuple (vecD B.length (upv x c (rd B.length (fac B) x c)))))) (some (.pd (fr (ene B.length (fac B) s (upv x c (rd B.length (fac B) x c)))))) (some (.pd (.tuple (vecD B.length (upv x c (rd B.length (fac B) x c + t))))))) μ1 = .ok ((.nx, RE l B s x (some (.pd (.int (c : Int)))) (some (.pd (fr (ene B.length (fac B) s x)))) (some (.pd (.tuple (vecD B.length (upv x c (rd B.length (fac B) x c)))))) (some (.pd (fr (ene B.length (fac B) s (upv x c (rd B.length (fac B) x c)))))) (some (.pd (.tuple (vecD B.length (upv x c (rd B.length (fac B) x c + t))))))), μ1) := by
      cases ho : (List.range B.length).all fun i => decide ((upv x c (rd B.length (fac B) x c + t) i).den ≤ 10000) with
      | false =>
        rw [ho] at t7
        exact if_f (andT_f t7) rfl
      | true =>
        rw [ho] at t7
        have VO : Vx B.length (6000 * M + 5) (upv x c (rd B.length (fac B) x c + t)) := by
          refine ⟨fun i hi => ?_, fun i hi => ?_⟩
          · unfold upv
            split
            · exact (rd_ab E.W V hc).add (Ab.of_bd ht)
            · exact (V.ab i hi).mono (by omega)
          · rw [List.all_eq_true] at ho
            exact of_decide_eq_true (ho i (by simpa using hi))
        obtain ⟨D2, N2, XO⟩ := VO.xs n5 hM
        have enO := energy_ok E XO
        have elt := ene_lt (x := x) hc dg E.S.sym (E.S.pos c hc) ht0
        have bo := below_ok (ene_sm E XL) (ene_sm E XO)
        rw [decide_eq_true elt] at bo
        exact if_f (andT_t t7 (not_ok (tru_ok (call2e (v_var 7 rfl) (callX2 enO rfl rfl) bo)))) rfl
    have s8 : p_law_is_energy_right_1_b_8 (RE l B s x (some (.pd (.int (c : Int)))) (some (.pd (fr (ene B.length (fac B) s x)))) (some (.pd (.tuple (vecD B.length (upv x c (rd B.length (fac B) x c)))))) (some (.pd (fr (ene B.length (fac B) s (upv x c (rd B.length (fac B) x c)))))) (some (.pd (.tuple (vecD B.length (upv x c (rd B.length (fac B) x c + t))))))) μ1 = .ok ((.nx, RE l B s (upv x c (rd B.length (fac B) x c)) (some (.pd (.int (c : Int)))) (some (.pd (fr (ene B.length (fac B) s x)))) (some (.pd (.tuple (vecD B.length (upv x c (rd B.length (fac B) x c)))))) (some (.pd (fr (ene B.length (fac B) s (upv x c (rd B.length (fac B) x c)))))) (some (.pd (.tuple (vecD B.length (upv x c (rd B.length (fac B) x c + t))))))), μ1) :=
      set_ok (v_var 6 rfl) (by decide : 3 < 9)
    have s9 : p_law_is_energy_right_1_b_9 (RE l B s (upv x c (rd B.length (fac B) x c)) (some (.pd (.int (c : Int)))) (some (.pd (fr (ene B.length (fac B) s x)))) (some (.pd (.tuple (vecD B.length (upv x c (rd B.length (fac B) x c)))))) (some (.pd (fr (ene B.length (fac B) s (upv x c (rd B.length (fac B) x c)))))) (some (.pd (.tuple (vecD B.length (upv x c (rd B.length (fac B) x c + t))))))) μ1 = .ok ((.nx, RE l B s (upv x c (rd B.length (fac B) x c)) (some (.pd (.int (c : Int)))) (some (.pd (fr (ene B.length (fac B) s x)))) (some (.pd (.tuple (vecD B.length (upv x c (rd B.length (fac B) x c)))))) (some (.pd (fr (ene B.length (fac B) s (upv x c (rd B.length (fac B) x c)))))) (some (.pd (.tuple (vecD B.length (upv x c (rd B.length (fac B) x c + t))))))), μ1) :=
      if_f (tst 3 _ _ rfl) rfl
    refine ⟨μ1, d1, b1, .inl ⟨upv x c (rd B.length (fac B) x c), ?_, VL⟩⟩
    unfold p_law_is_energy_right_1_b
    rw [v_forget, seq_nx s0, seq_nx s1, seq_nx s2, seq_nx s3, seq_nx s4, seq_nx s5, seq_nx s6, seq_nx s7, seq_nx s8, s9]
    rfl
theorem right_ok {l k : Nat} {μ : Store} (E : Eb B s Ds Df) (hb : BagAt l k μ) (hk : k ≤ 400000) :
    ∃ μ', F__law_is_energy_right [.ref l, .pd (gbD B), .pd (.tuple (vecD B.length s))] μ = .ok (.pd (.bool true), μ') ∧ Dr l μ μ' ∧ BagAt l (k + 20) μ' := by
  have n5 := E.W.most
  have len := gb_len B
  obtain ⟨μ1, vs, e1, d1, b1, lv, pv⟩ := vals_ok (n := B.length) hb (by omega) n5
  have hvs : vs.map fr = vecD B.length (fun i => vs.getD i 0) := by
    rw [map_get vs 0 fr, lv]
    rfl
  rw [hvs] at e1
  have V0 : Vx B.length (5 * 6000 ^ 0) (fun i => vs.getD i 0) := by
    have hv : ∀ i, i < B.length → Val (vs.getD i 0) := fun i hi => by
      have hi' : i < vs.length := by omega
      simp only [List.getD, List.getElem?_eq_getElem hi', Option.getD_some]
      exact pv _ (List.getElem_mem hi')
    refine ⟨fun i hi => ?_, fun i hi => Nat.le_trans (hv i hi).2 (by decide)⟩
    exact Ab.of_bd (N := 5) (D := 2) (hv i hi)
  obtain ⟨μ2, es, e2, d2, b2, pe⟩ := mixed_ok b1 (by omega) (ds := (List.range B.length).map fun (k : Nat) => PyData.int (k : Int)) (by simp; omega)
  have s0 : p_law_is_energy_right_0 [some (.ref l), some (.pd (gbD B)), some (.pd (.tuple (vecD B.length s))), none, none, none, none, none, none] μ = .ok ((.nx, RE l B s (fun i => vs.getD i 0) none none none none none), μ1) := by
    refine set_ok (callS_ok (ds := [.ref l, .pd (.int (B.length : Int))]) ?_ e1) (by decide : 3 < 9)
    simp -implicitDefEqProofs [len]
  have lr : B.length ≤ 16777216 := by omega
  have i1 : iLst (eCallS F__law_mixed (aCons (eVar 0) (aCons (eFrz (eListR (eCall fLen (aCons (eVar 1) aNil)))) aNil))) (RE l B s (fun i => vs.getD i 0) none none none none none) μ1 = .ok ((es.map .pd, []), μ2) := by
    refine lst_ok (callS_ok (ds := [.ref l, .pd (.list ((List.range B.length).map fun (k : Nat) => PyData.int (k : Int)))]) ?_ e2)
    have hl : ((B.length : Nat) : Int) ≤ 16777216 := by omega
    simp -implicitDefEqProofs [len, asI, hl]
  have le : es.length = B.length := by
    rw [pe.length_eq]
    simp
  have key := for_relR (T := .nm 4) (b := p_law_is_energy_right_1_b) (fun j env S => ∃ x, env = RE l B s x none none none none none ∧ Dr l μ2 S ∧ BagAt l (k + 10 + j) S ∧ Vx B.length (5 * 6000 ^ j) x)
    (fun j r _ S => r = .pd (.bool true) ∧ Dr l μ2 S ∧ BagAt l (k + 20) S) i1 ⟨_, rfl, .refl b2, b2.mono (by simp; omega), V0⟩ (fun _ _ _ _ => held_nil) (fun j d env S hd hP => by
      obtain ⟨x, rfl, dS, bS, Vj⟩ := hP
      simp only [List.getElem?_map, Option.map_eq_some_iff] at hd
      obtain ⟨e, he, rfl⟩ := hd
      have hj : j < es.length := (List.getElem?_eq_some_iff.mp he).1
      have me : e ∈ (List.range B.length).map fun (k : Nat) => PyData.int (k : Int) := pe.mem_iff.mp (List.mem_of_getElem? he)
      obtain ⟨c, hc, rfl⟩ := List.mem_map.mp me
      have hc' : c < B.length := by simpa using hc
      have hM : 6000 * (5 * 6000 ^ j) + 5 ≤ 2 ^ 67 := by
        have h1 : 6000 ^ j ≤ 6000 ^ 4 := Nat.pow_le_pow_right (by decide) (by omega)
        have h2 : 6000 * (5 * 6000 ^ 4) + 5 ≤ 2 ^ 67 := by decide
        omega
      have hM2 : 6000 * (5 * 6000 ^ j) = 5 * 6000 ^ (j + 1) := by
        rw [Nat.pow_succ]
        omega
      obtain ⟨S', q1, q2, q3⟩ := right_turn E Vj hM hc' bS (by omega)
      rcases q3 with ⟨x', q4, q5⟩ | ⟨env', q4⟩
      · rw [hM2] at q5
        exact ⟨_, _, _, rfl, .inl ⟨.inl q4, x', rfl, dS.trans q1, q2.mono (by omega), q5⟩⟩
      · exact ⟨_, _, _, rfl, .inr ⟨_, q4, rfl, dS.trans q1, q2.mono (by omega)⟩⟩)
  rcases key with ⟨env', S, h1, x, rfl, dS, bS, _⟩ | ⟨j, r, env', S, hj, h1, rfl, dS, bS⟩
  · have bF : BagAt l (k + 20) S := bS.mono (by simp; omega)
    have dF := (d1.trans d2).trans dS
    refine ⟨S, fnS_pd (ex := []) ?_ dF bF, dF, bF⟩
    rw [List.append_nil]
    exact fnL_run ((congrFun (congrFun parts_law_is_energy_right _) _).trans ((seq_nx s0).trans ((seq_nx h1).trans (show p_law_is_energy_right_2 _ _ = _ from rfl)))) rfl
  · have dF := (d1.trans d2).trans dS
    refine ⟨S, fnS_pd (ex := []) ?_ dF bS, dF, bS⟩
    rw [List.append_nil]
    exact fnL_run ((congrFun (congrFun parts_law_is_energy_right _) _).trans ((seq_nx s0).trans (seq_rt h1))) rfl
end
end P55

set_option Elab.async false
set_option linter.all false
set_option maxRecDepth 100000
set_option maxHeartbeats 1000000
/-! The law. -/
namespace P55
open PySem PySem.Spec PyProof.Rows L2 Zd
theorem ifE_t {c : EvT} {a b : EvE} {env : Zd.Env} {μ μ1 : Store} {o : Out (D × Store)} (h : c env μ = .ok (true, μ1)) (ha : a env μ1 = o) : eIf c a b env μ = o := by
  unfold eIf
  rw [h]
  exact ha
theorem ifE_f {c : EvT} {a b : EvE} {env : Zd.Env} {μ μ1 : Store} {o : Out (D × Store)} (h : c env μ = .ok (false, μ1)) (ha : b env μ1 = o) : eIf c a b env μ = o := by
  unfold eIf
  rw [h]
  exact ha
theorem ne_same {L k : Nat} {d : PyData} (h : Nc L k d) (hk : k ≤ 60) : fNe d d = some (.bool false) := by
  have hs : SeqAt.shaped d = true := by
    unfold SeqAt.shaped
    have := h.dp
    rw [h.lay, decide_eq_true (by omega)]
    rfl
  have e1 : fNeD d d = some (.bool false) := by
    unfold fNeD
    rw [if_pos ⟨hs, hs⟩, SeqAt.eqv_refl d h.lay]
    rfl
  unfold fNe
  cases d <;> first | (rw [e1]; rfl) | (simp [fNeS, e1])
/-- the frame of law -/
abbrev LW (ns : List Int) (e2 e3 e4 e5 e6 : Option D) : Zd.Env := [some (.scr ns), some (.ref 1), e2, e3, e4, e5, e6]
abbrev lamN : Str := "law.<locals>.<lambda>"
theorem dr_zero {S S' : Store} (d : Dr 1 S S') : S'[0]? = S[0]? := by
  obtain ⟨c, rfl⟩ := d
  rw [List.getElem?_set_ne (by decide)]
/-- the book of a turn -/
theorem turn_book {T : Addr} {ns : List Int} {j k : Nat} {S : Store} (hj : j < 5) (hb : BagAt 1 k S) (hk : k ≤ 30000) :
    ∃ (S' : Store) (B : List (List Ru)), (sCons (p_law_1_b_0 T) (p_law_1_b_1 T)) (LW ns (some (.pd (.int (j : Int)))) none none none none) S = .ok ((.nx, LW ns (some (.pd (.int (j : Int)))) (some (.pd (gbD B))) none none none), S') ∧ Dr 1 S S' ∧ BagAt 1 (k + 4500) S' ∧ WB B := by
  obtain ⟨S1, B, x, e1, d1, b1, w1, l1⟩ := even_ok hb (by omega)
  have s0 : p_law_1_b_0 T (LW ns (some (.pd (.int (j : Int)))) none none none none) S = .ok ((.nx, LW ns (some (.pd (.int (j : Int)))) (some (.pd (gbD B))) none none none), S1) := by
    refine set_ok (ix_ok (d := .tuple [gbD B, x]) (i := 0) (callS_ok (ds := [.ref 1, .pd (.int 5)]) (by simp) e1) rfl rfl) (by decide : 3 < 7)
  rw [seq_nx s0]
  have cnd : eTst (eOp2 fGt (eVar 2) (eC (.int 1))) (LW ns (some (.pd (.int (j : Int)))) (some (.pd (gbD B))) none none none) S1 = .ok (decide ((1 : Int) < (j : Int)), S1) := by simp
  have cnd2 : eTst (eOp2 fLt (eVar 2) (eC (.int 4))) (LW ns (some (.pd (.int (j : Int)))) (some (.pd (gbD B))) none none none) S1 = .ok (decide ((j : Int) < 4), S1) := by simp
  by_cases h1 : 1 < j
  · rw [decide_eq_true (by omega)] at cnd
    by_cases h4 : j < 4
    · rw [decide_eq_true (by omega)] at cnd2
      obtain ⟨S2, B2, e2, d2, b2, w2⟩ := spoilt_ok w1 l1 b1 (by omega)
      refine ⟨S2, B2, if_t cnd ?_, d1.trans d2, b2.mono (by omega), w2⟩
      exact set_ok (ifE_t cnd2 (callS_ok (ds := [.ref 1, .pd (gbD B)]) (by simp) e2)) (by decide : 3 < 7)
    · rw [decide_eq_false (by omega)] at cnd2
      obtain ⟨S2, B2, e2, d2, b2, w2, _⟩ := book_ok (most := 4) (by decide) (by decide) b1 (by omega)
      refine ⟨S2, B2, if_t cnd ?_, d1.trans d2, b2.mono (by omega), w2⟩
      exact set_ok (ifE_f cnd2 (callS_ok (ds := [.ref 1, .pd (.int ((4 : Nat) : Int))]) (by simp) e2)) (by decide : 3 < 7)
  · rw [decide_eq_false (by omega)] at cnd
    exact ⟨S1, B, if_f cnd rfl, d1, b1.mono (by omega), w1⟩
abbrev neT : PyData := .tuple [.str "not even"]
theorem ne_nc : ∀ d ∈ [neT, neT, neT], Nc 100 1 d := fun d hd => by
  have h : Nc 100 1 neT := ⟨by decide +kernel, by decide +kernel, by decide +kernel, by decide +kernel⟩
  simp only [List.mem_cons, List.not_mem_nil, or_false, or_self] at hd
  subst hd
  exact h
abbrev resN : Str → Option Str := fun c => if c = "NotEven" then some "not even" else none
theorem told_not {T : Addr} {S : Store} {env : Zd.Env} {eb : EvE} (h0 : S[0]? = some (.tab T lamN)) (he : eb env S = .exc "NotEven" [] S) : eTold T "law.<locals>.<lambda>" (fun c => if c = "NotEven" then some "not even" else none) "told" eb env S = .ok (.pd neT, S) := by
  unfold eTold
  rw [h0]
  dsimp only
  rw [if_pos ⟨rfl, rfl⟩, he]
  exact toldO_some (if_pos rfl)
theorem law_turn {T : Addr} {ns : List Int} {j k : Nat} {S : Store} (hj : j < 5) (h0 : S[0]? = some (.tab T lamN)) (hb : BagAt 1 k S) (hk : k ≤ 30000) :
    ∃ S', p_law_1_b T (LW ns (some (.pd (.int (j : Int)))) none none none none) S = .ok ((.nx, LW ns none none none none none), S') ∧ S'[0]? = some (.tab T lamN) ∧ BagAt 1 (k + 5000) S' := by
  obtain ⟨S1, B, e1, d1, b1, W⟩ := turn_book (T := T) (ns := ns) hj hb hk
  have z1 : S1[0]? = some (.tab T lamN) := (dr_zero d1).trans h0
  have n5 := W.most
  obtain ⟨sp, sl⟩ := scales_any W
  have rp := repr_ok (gb_nc W) (by decide) (by decide)
  have al := alike_ok (scD_nc W) (by decide) (by decide)
  have s2 : p_law_1_b_2 T (LW ns (some (.pd (.int (j : Int)))) (some (.pd (gbD B))) none none none) S1 = .ok ((.nx, LW ns (some (.pd (.int (j : Int)))) (some (.pd (gbD B))) (some (.pd (scD B.length (scs B)))) (some (.pd (.str (gbD B).shown))) none), S1) := by
    have c1 : eCallP F__law_scales (aCons (eVar 3) aNil) (LW ns (some (.pd (.int (j : Int)))) (some (.pd (gbD B))) none none none) S1 = .ok (.pd (scD B.length (scs B)), S1) := call1 sl rfl
    unfold p_law_1_b_2
    rw [v_par, v_acons, c1]
    simp [rp, bindTs, bindT]
  have s3 : p_law_1_b_3 T (LW ns (some (.pd (.int (j : Int)))) (some (.pd (gbD B))) (some (.pd (scD B.length (scs B)))) (some (.pd (.str (gbD B).shown))) none) S1 = .ok ((.nx, LW ns (some (.pd (.int (j : Int)))) (some (.pd (gbD B))) (some (.pd (scD B.length (scs B)))) (some (.pd (.str (gbD B).shown))) none), S1) :=
    if_f (not_ok (tst_ok (call2e (call1 sp rfl) (v_var 4 rfl) al))) rfl
  have s5 : ∀ (e6 : Option D) (S2 : Store), p_law_1_b_5 T (LW ns (some (.pd (.int (j : Int)))) (some (.pd (gbD B))) (some (.pd (scD B.length (scs B)))) (some (.pd (.str (gbD B).shown))) e6) S2 = .ok ((.nx, LW ns (some (.pd (.int (j : Int)))) (some (.pd (gbD B))) (some (.pd (scD B.length (scs B)))) (some (.pd (.str (gbD B).shown))) e6), S2) := fun e6 S2 => by
    refine if_f (tst_ok (op2_ok (x := .str (gbD B).shown) (y := .str (gbD B).shown) (μ1 := S2) ?_ (v_var 5 rfl) (ne_str _))) rfl
    simp [rp]
  have s4 : ∃ (e6 : Option D) (S2 : Store), p_law_1_b_4 T (LW ns (some (.pd (.int (j : Int)))) (some (.pd (gbD B))) (some (.pd (scD B.length (scs B)))) (some (.pd (.str (gbD B).shown))) none) S1 = .ok ((.nx, LW ns (some (.pd (.int (j : Int)))) (some (.pd (gbD B))) (some (.pd (scD B.length (scs B)))) (some (.pd (.str (gbD B).shown))) e6), S2) ∧ S2[0]? = some (.tab T lamN) ∧ BagAt 1 (k + 5000) S2 := by
    have isn := isN_ok (a := eVar 4) (env := LW ns (some (.pd (.int (j : Int)))) (some (.pd (gbD B))) (some (.pd (scD B.length (scs B)))) (some (.pd (.str (gbD B).shown))) none) (μ := S1) (μ1 := S1) (d := scD B.length (scs B)) (v_var 4 rfl)
    cases h : scs B with
    | none =>
      rw [h] at isn
      have len := gb_len B
      have lt1 := b1.lt
      -- the three outcomes
      have nE := energy_not W h
      have nS := squares_not W h
      have nL := low_not W h
      have mT : fMulT (.tuple [.tuple [.int 0, .int 1]]) (.int (B.length : Int)) = some (.tuple (List.replicate B.length (.tuple [.int 0, .int 1]))) := by
        have wp := W.pos
        by_cases hl : B.length = 1
        · rw [hl]
          rfl
        · have e1 : fMulT1 (.tuple [.tuple [.int 0, .int 1]]) (.int (B.length : Int)) = none := if_neg (by omega)
          have e2 : fMulTk (.tuple [.tuple [.int 0, .int 1]]) (.int (B.length : Int)) = some (.tuple (List.replicate ((B.length : Int)).toNat [PyData.tuple [.int 0, .int 1]]).flatten) := if_pos ⟨by simp, by omega, by omega, by simp⟩
          unfold fMulT
          rw [e1, e2]
          simp [List.flatten_replicate_singleton]
      have c0 : eTold T "law.<locals>.<lambda>" (fun c => if c = "NotEven" then some "not even" else none) "told" (eCallX F_energy (aCons (eVar 3) (aCons (eOp2 fMulT (eTup (aCons (eTup (aCons (eC (.int 0)) (aCons (eC (.int 1)) aNil))) aNil)) (eCall fLen (aCons (eVar 3) aNil))) aNil))) (LW ns (some (.pd (.int (j : Int)))) (some (.pd (gbD B))) (some (.pd (scD B.length none))) (some (.pd (.str (gbD B).shown))) none) S1 = .ok (.pd neT, S1) := by
        refine told_not z1 ?_
        have ha : (aCons (eVar 3) (aCons (eOp2 fMulT (eTup (aCons (eTup (aCons (eC (.int 0)) (aCons (eC (.int 1)) aNil))) aNil)) (eCall fLen (aCons (eVar 3) aNil))) aNil)) (LW ns (some (.pd (.int (j : Int)))) (some (.pd (gbD B))) (some (.pd (scD B.length none))) (some (.pd (.str (gbD B).shown))) none) S1 = .ok ([.pd (gbD B), .pd (.tuple (List.replicate B.length (.tuple [.int 0, .int 1])))], S1) := by
          simp [len, mT, sizeLine_ge]
        rw [v_callX, ha]
        simp [nE]
      have nlS : S1.length ≠ 0 := by omega
      have zA : ∀ ds, (S1 ++ [Cell.lst ds])[0]? = some (.tab T lamN) := fun ds => by
        rw [List.getElem?_append_left (by omega)]
        exact z1
      have t0 : p_law_1_b_4t_0 T (LW ns (some (.pd (.int (j : Int)))) (some (.pd (gbD B))) (some (.pd (scD B.length none))) (some (.pd (.str (gbD B).shown))) none) S1 = .ok ((.nx, LW ns (some (.pd (.int (j : Int)))) (some (.pd (gbD B))) (some (.pd (scD B.length none))) (some (.pd (.str (gbD B).shown))) (some (.ref S1.length))), S1 ++ [.lst [neT]]) := by
        refine set_ok ?_ (by decide : 6 < 7)
        have hl : eLst (aCons (eTold T "law.<locals>.<lambda>" (fun c => if c = "NotEven" then some "not even" else none) "told" (eCallX F_energy (aCons (eVar 3) (aCons (eOp2 fMulT (eTup (aCons (eTup (aCons (eC (.int 0)) (aCons (eC (.int 1)) aNil))) aNil)) (eCall fLen (aCons (eVar 3) aNil))) aNil)))) aNil) (LW ns (some (.pd (.int (j : Int)))) (some (.pd (gbD B))) (some (.pd (scD B.length none))) (some (.pd (.str (gbD B).shown))) none) S1 = .ok ([neT], S1) := by
          rw [v_lst, v_acons, c0]
          simp [sizeLine_ge]
        rw [v_own, hl]
        rfl
      have app : ∀ (F : FnX) (ds : List PyData), F [gbD B] = .exc "NotEven" [] [] → ds.length ≤ 5 → (sExp (eMeth mAppend (eVar 6) (aCons (eTold T "law.<locals>.<lambda>" (fun c => if c = "NotEven" then some "not even" else none) "told" (eCallX F (aCons (eVar 3) aNil))) aNil))) (LW ns (some (.pd (.int (j : Int)))) (some (.pd (gbD B))) (some (.pd (scD B.length none))) (some (.pd (.str (gbD B).shown))) (some (.ref S1.length))) (S1 ++ [.lst ds]) = .ok ((.nx, LW ns (some (.pd (.int (j : Int)))) (some (.pd (gbD B))) (some (.pd (scD B.length none))) (some (.pd (.str (gbD B).shown))) (some (.ref S1.length))), S1 ++ [.lst (ds ++ [neT])]) := fun F ds hF hds => by
        have c1 : eTold T "law.<locals>.<lambda>" (fun c => if c = "NotEven" then some "not even" else none) "told" (eCallX F (aCons (eVar 3) aNil)) (LW ns (some (.pd (.int (j : Int)))) (some (.pd (gbD B))) (some (.pd (scD B.length none))) (some (.pd (.str (gbD B).shown))) (some (.ref S1.length))) (S1 ++ [.lst ds]) = .ok (.pd neT, S1 ++ [.lst ds]) := by
          refine told_not (zA ds) ?_
          rw [v_callX]
          simp [hF]
        have hz : ds.length < sizeLine := small1000 (by omega)
        simp -implicitDefEqProofs [c1, hz]
      have t1 : p_law_1_b_4t_1 T _ _ = _ := app F_squares_of [neT] nS (by simp)
      have t2 : p_law_1_b_4t_2 T _ _ = _ := app F_low_values ([neT] ++ [neT]) nL (by simp)
      have t3 : p_law_1_b_4t_3 T (LW ns (some (.pd (.int (j : Int)))) (some (.pd (gbD B))) (some (.pd (scD B.length none))) (some (.pd (.str (gbD B).shown))) (some (.ref S1.length))) (S1 ++ [.lst ([neT] ++ [neT] ++ [neT])]) = .ok ((.nx, LW ns (some (.pd (.int (j : Int)))) (some (.pd (gbD B))) (some (.pd (scD B.length none))) (some (.pd (.str (gbD B).shown))) (some (.ref S1.length))), S1 ++ [.lst ([neT] ++ [neT] ++ [neT])]) := by
        have nn := ne_same (Nc.lst ne_nc) (by decide)
        have gm : gMul (.list [neT]) (.int 3) = some [neT, neT, neT] := by
          unfold gMul
          dsimp only
          rw [if_pos ⟨by decide, by decide, sizeLine_ge (by decide)⟩]
          rfl
        have dr : deref (S1 ++ [Cell.lst ([neT] ++ [neT] ++ [neT])]) (.ref S1.length) = some (.list [neT, neT, neT]) := dreff _ _ _ (by simp)
        refine if_f (tst_ok (b := false) ?_) rfl
        have r1 : eFrz (eNew2 gMul (eFrz (eLst (aCons (eTup (aCons (eC (.str "not even")) aNil)) aNil))) (eC (.int 3))) (LW ns (some (.pd (.int (j : Int)))) (some (.pd (gbD B))) (some (.pd (scD B.length none))) (some (.pd (.str (gbD B).shown))) (some (.ref S1.length))) (S1 ++ [.lst ([neT] ++ [neT] ++ [neT])]) = .ok (.pd (.list [neT, neT, neT]), S1 ++ [.lst ([neT] ++ [neT] ++ [neT])]) := by
          simp [sizeLine_ge, gm]
        rw [v_op2, v_var 6 rfl, Out.ok_bind, r1, Out.ok_bind]
        dsimp only
        rw [dr]
        simp [deref, nn]
      refine ⟨some (.ref S1.length), S1 ++ [.lst ([neT] ++ [neT] ++ [neT])], ?_, zA _, (b1.app (ex := [.lst ([neT] ++ [neT] ++ [neT])]) (by simp [isLls])).mono (by omega)⟩
      refine if_t (tst_ok isn) ?_
      rw [seq_nx t0, seq_nx t1, seq_nx t2, t3]
    | some σ =>
      obtain ⟨Ds, Df, E⟩ := eb_of W h
      obtain ⟨S2, e2, d2, b2⟩ := right_ok E b1 (by omega)
      have ev : scD B.length (some σ) = .tuple (vecD B.length fun i => (σ i).getD 1) := rfl
      rw [h, ev] at isn
      rw [ev]
      refine ⟨none, S2, if_f (tst_ok isn) (if_f (not_ok (tru_ok (callS_ok (ds := [.ref 1, .pd (gbD B), .pd (.tuple (vecD B.length fun i => (σ i).getD 1))]) (by simp) e2))) rfl), (dr_zero d2).trans z1, b2.mono (by omega)⟩
  obtain ⟨e6, S2, q4, z2, b2⟩ := s4
  refine ⟨S2, ?_, z2, b2⟩
  have e01 : ∀ r : EvS, sCons (p_law_1_b_0 T) (sCons (p_law_1_b_1 T) r) (LW ns (some (.pd (.int (j : Int)))) none none none none) S = r (LW ns (some (.pd (.int (j : Int)))) (some (.pd (gbD B))) none none none) S1 := fun r => by
    rw [← seq_assoc, seq_nx e1]
  unfold p_law_1_b
  rw [v_forget, e01, seq_nx s2, seq_nx s3, seq_nx q4, s5]
  rfl
theorem law_holds (T : Addr) (ns : List Int) (hl : ns.length ≤ 63) : ∃ μ, F_law T [.scr ns] [.tab T lamN] = .ok (.pd (.bool true), μ) := by
  obtain ⟨c, e1, g1⟩ := bag_ok hl [.tab T lamN]
  have s0 : p_law_0 T [some (.scr ns), none, none, none, none, none, none] [.tab T lamN] = .ok ((.nx, LW ns none none none none none), [.tab T lamN, c]) :=
    set_ok (callS_ok (ds := [.scr ns]) (by simp) e1) (by decide : 1 < 7)
  have b0 : BagAt 1 0 [.tab T lamN, c] := ⟨⟨c, rfl, g1⟩, fun d hd => by
    simp only [List.mem_cons, List.not_mem_nil, or_false] at hd
    rcases hd with rfl | rfl
    · rfl
    · exact g1.nl⟩
  obtain ⟨env', S, q1, rfl, z, b⟩ := for_rel (T := .nm 2) (b := p_law_1_b T) (ei := iRg1 (eC (.int 5))) (env := LW ns none none none none none) (μ := [.tab T lamN, c]) (μ1 := [.tab T lamN, c])
    (fun j env S => env = LW ns none none none none none ∧ S[0]? = some (.tab T lamN) ∧ BagAt 1 (5000 * j) S) (rg1_ok (n := 5) rfl (by decide)) ⟨rfl, rfl, b0⟩ (fun _ _ _ _ => held_nil) (fun j d env S hd hP => by
      obtain ⟨rfl, z, b⟩ := hP
      obtain ⟨hj, rfl⟩ := range_item hd
      obtain ⟨S', q1, q2, q3⟩ := law_turn (T := T) (ns := ns) hj z b (by omega)
      exact ⟨_, _, _, by simp [bindT], .inl q1, rfl, q2, q3.mono (by omega)⟩)
  exact ⟨S, fnL_run ((congrFun (congrFun (parts_law T) _) _).trans ((seq_nx s0).trans ((seq_nx q1).trans (show p_law_2 T _ _ = _ from rfl)))) rfl⟩
end P55

set_option Elab.async false
set_option linter.all false
set_option maxRecDepth 100000
set_option maxHeartbeats 4000000
namespace P55
open PySem PySem.Spec PyProof.Rows L2 Zd
def topS (i : Nat) : Stmt := PySem.Challenge.pw_onelate_k54_scales_and_energy.main.body.getD i (.Pass ⟨0, 0, 0, 0⟩)
/-- names that the module leaves to the built-in ones -/
structure Free (mg : Str → Option Value) : Prop where
  abs : mg "abs" = none
  any : mg "any" = none
  enumerate : mg "enumerate" = none
  int : mg "int" = none
  len : mg "len" = none
  list : mg "list" = none
  max : mg "max" = none
  range : mg "range" = none
  repr : mg "repr" = none
  sorted : mg "sorted" = none
  sum : mg "sum" = none
  tuple : mg "tuple" = none
  zip : mg "zip" = none
section
variable {P : Program} {w : World} {K : PySem.W.Frag} {mg : Str → Option Value} {base : Heap} {f : Addr} {fd : FuncData}
theorem sc_fraction : FnScope ["num", "den", "common"] ["num", "den"] (defScope (topS 9)) := ⟨rfl, rfl, rfl, by decide +kernel, rfl, by decide +kernel, by decide +kernel⟩
theorem ok_fraction (fr : Free mg) (k_gcd : mg "gcd" = some (.builtin "math.gcd")) (F : Fun K "fraction" "fraction" (topS 9) f fd) (hm : mg "fraction" = some (.ref f)) : DefP P w K mg base 1 "fraction" F_fraction :=
  defP (N := ["num", "den", "common"]) (ps := ["num", "den"]) F hm (F.binds fun _ _ _ _ _ _ us hl => match us, hl with | [_, _], _ => rfl) sc_fraction fun cdv A outer s H hr =>
    (ss_cons (ss_if (st_eq (hr.rm.units) (se_var 1) se_int) (ss_one ss_stuck) ss_nil) (ss_cons (ss_set 2 sc_fraction.nd (se_if (st_gt (se_var 1) se_int) (se_callG cr_gcd rn_gcd (by rfl) k_gcd (sa_cons (se_var 0) (sa_cons (se_var 1) sa_nil))) (se_neg (se_callG cr_gcd rn_gcd (by rfl) k_gcd (sa_cons (se_var 0) (sa_cons (se_var 1) sa_nil)))))) (ss_one (ss_ret (se_tup (sa_cons (se_div (se_var 0) (se_var 2)) (sa_cons (se_div (se_var 1) (se_var 2)) sa_nil)))))))
theorem sc_plus : FnScope ["one", "other"] ["one", "other"] (defScope (topS 10)) := ⟨rfl, rfl, rfl, by decide +kernel, rfl, by decide +kernel, by decide +kernel⟩
theorem ok_plus (fr : Free mg) (c_fraction : DefP P w K mg base 1 "fraction" F_fraction) (F : Fun K "plus" "plus" (topS 10) f fd) (hm : mg "plus" = some (.ref f)) : DefP P w K mg base 2 "plus" F_plus :=
  defP (N := ["one", "other"]) (ps := ["one", "other"]) F hm (F.binds fun _ _ _ _ _ _ us hl => match us, hl with | [_, _], _ => rfl) sc_plus fun cdv A outer s H hr =>
    (ss_one (ss_ret (se_callP c_fraction hr (sa_cons (se_add (se_mul (se_ix (se_var 0) se_int) (se_ix (se_var 1) se_int)) (se_mul (se_ix (se_var 1) se_int) (se_ix (se_var 0) se_int))) (sa_cons (se_mul (se_ix (se_var 0) se_int) (se_ix (se_var 1) se_int)) sa_nil)))))
theorem sc_less : FnScope ["one", "other"] ["one", "other"] (defScope (topS 11)) := ⟨rfl, rfl, rfl, by decide +kernel, rfl, by decide +kernel, by decide +kernel⟩
theorem ok_less (fr : Free mg) (c_fraction : DefP P w K mg base 1 "fraction" F_fraction) (F : Fun K "less" "less" (topS 11) f fd) (hm : mg "less" = some (.ref f)) : DefP P w K mg base 2 "less" F_less :=
  defP (N := ["one", "other"]) (ps := ["one", "other"]) F hm (F.binds fun _ _ _ _ _ _ us hl => match us, hl with | [_, _], _ => rfl) sc_less fun cdv A outer s H hr =>
    (ss_one (ss_ret (se_callP c_fraction hr (sa_cons (se_sub (se_mul (se_ix (se_var 0) se_int) (se_ix (se_var 1) se_int)) (se_mul (se_ix (se_var 1) se_int) (se_ix (se_var 0) se_int))) (sa_cons (se_mul (se_ix (se_var 0) se_int) (se_ix (se_var 1) se_int)) sa_nil)))))
theorem sc_times : FnScope ["one", "other"] ["one", "other"] (defScope (topS 12)) := ⟨rfl, rfl, rfl, by decide +kernel, rfl, by decide +kernel, by decide +kernel⟩
theorem ok_times (fr : Free mg) (c_fraction : DefP P w K mg base 1 "fraction" F_fraction) (F : Fun K "times" "times" (topS 12) f fd) (hm : mg "times" = some (.ref f)) : DefP P w K mg base 2 "times" F_times :=
  defP (N := ["one", "other"]) (ps := ["one", "other"]) F hm (F.binds fun _ _ _ _ _ _ us hl => match us, hl with | [_, _], _ => rfl) sc_times fun cdv A outer s H hr =>
    (ss_one (ss_ret (se_callP c_fraction hr (sa_cons (se_mul (se_ix (se_var 0) se_int) (se_ix (se_var 1) se_int)) (sa_cons (se_mul (se_ix (se_var 0) se_int) (se_ix (se_var 1) se_int)) sa_nil)))))
theorem sc_over : FnScope ["one", "other"] ["one", "other"] (defScope (topS 13)) := ⟨rfl, rfl, rfl, by decide +kernel, rfl, by decide +kernel, by decide +kernel⟩
theorem ok_over (fr : Free mg) (c_fraction : DefP P w K mg base 1 "fraction" F_fraction) (F : Fun K "over" "over" (topS 13) f fd) (hm : mg "over" = some (.ref f)) : DefP P w K mg base 2 "over" F_over :=
  defP (N := ["one", "other"]) (ps := ["one", "other"]) F hm (F.binds fun _ _ _ _ _ _ us hl => match us, hl with | [_, _], _ => rfl) sc_over fun cdv A outer s H hr =>
    (ss_one (ss_ret (se_callP c_fraction hr (sa_cons (se_mul (se_ix (se_var 0) se_int) (se_ix (se_var 1) se_int)) (sa_cons (se_mul (se_ix (se_var 0) se_int) (se_ix (se_var 1) se_int)) sa_nil)))))
theorem sc_compare : FnScope ["one", "other", "gap"] ["one", "other"] (defScope (topS 14)) := ⟨rfl, rfl, rfl, by decide +kernel, rfl, by decide +kernel, by decide +kernel⟩
theorem ok_compare (fr : Free mg) (F : Fun K "compare" "compare" (topS 14) f fd) (hm : mg "compare" = some (.ref f)) : DefP P w K mg base 1 "compare" F_compare :=
  defP (N := ["one", "other", "gap"]) (ps := ["one", "other"]) F hm (F.binds fun _ _ _ _ _ _ us hl => match us, hl with | [_, _], _ => rfl) sc_compare fun cdv A outer s H hr =>
    (ss_cons (ss_set 2 sc_compare.nd (se_sub (se_mul (se_ix (se_var 0) se_int) (se_ix (se_var 1) se_int)) (se_mul (se_ix (se_var 1) se_int) (se_ix (se_var 0) se_int)))) (ss_one (ss_ret (se_sub (se_callTy call_int1 rn_int (by rfl) fr.int PyProof.Rows.boot_int (sa_cons (se_gt (se_var 2) se_int) sa_nil)) (se_callTy call_int1 rn_int (by rfl) fr.int PyProof.Rows.boot_int (sa_cons (se_lt (se_var 2) se_int) sa_nil))))))
theorem sc_factor_of : FnScope ["book", "cell", "other"] ["book", "cell", "other"] (defScope (topS 16)) := ⟨rfl, rfl, rfl, by decide +kernel, rfl, by decide +kernel, by decide +kernel⟩
theorem ok_factor_of (fr : Free mg) (F : Fun K "factor_of" "factor_of" (topS 16) f fd) (hm : mg "factor_of" = some (.ref f)) : DefP P w K mg base 1 "factor_of" F_factor_of :=
  defP (N := ["book", "cell", "other"]) (ps := ["book", "cell", "other"]) F hm (F.binds fun _ _ _ _ _ _ us hl => match us, hl with | [_, _, _], _ => rfl) sc_factor_of fun cdv A outer s H hr =>
    (ss_one (ss_ret (se_ix (se_ix (se_ix (se_ix (se_var 0) (se_var 1)) se_int) se_int) (se_var 2))))
theorem sc_scale_beside : FnScope ["book", "cell", "other", "scale", "there", "back"] ["book", "cell", "other", "scale"] (defScope (topS 17)) := ⟨rfl, rfl, rfl, by decide +kernel, rfl, by decide +kernel, by decide +kernel⟩
theorem ok_scale_beside (fr : Free mg) (k_ZERO : CK K mg "ZERO" ZEROd) (c_compare : DefP P w K mg base 1 "compare" F_compare) (c_factor_of : DefP P w K mg base 1 "factor_of" F_factor_of) (c_over : DefP P w K mg base 2 "over" F_over) (c_times : DefP P w K mg base 2 "times" F_times) (F : Fun K "scale_beside" "scale_beside" (topS 17) f fd) (hm : mg "scale_beside" = some (.ref f)) : DefP P w K mg base 3 "scale_beside" F_scale_beside :=
  defP (N := ["book", "cell", "other", "scale", "there", "back"]) (ps := ["book", "cell", "other", "scale"]) F hm (F.binds fun _ _ _ _ _ _ us hl => match us, hl with | [_, _, _, _], _ => rfl) sc_scale_beside fun cdv A outer s H hr =>
    (ss_cons (ss_par2 4 5 (by rfl) sc_scale_beside.nd (sa_cons (se_callP c_factor_of hr (sa_cons (se_var 0) (sa_cons (se_var 1) (sa_cons (se_var 2) sa_nil)))) (sa_cons (se_callP c_factor_of hr (sa_cons (se_var 0) (sa_cons (se_var 2) (sa_cons (se_var 1) sa_nil)))) sa_nil))) (ss_cons (ss_if (SW.st (sw_or (st_eq (hr.rm.units) (se_var 5) (se_const k_ZERO)) (sw_or1 (st_le (se_callP c_compare hr (sa_cons (se_callP c_over hr (sa_cons (se_var 4) (sa_cons (se_var 5) sa_nil))) (sa_cons (se_const k_ZERO) sa_nil))) se_int)))) (ss_one (ss_ret se_non)) ss_nil) (ss_one (ss_ret (se_callP c_times hr (sa_cons (se_var 3) (sa_cons (se_callP c_over hr (sa_cons (se_var 4) (sa_cons (se_var 5) sa_nil))) sa_nil)))))))
theorem sc_scales_of : FnScope ["book", "scales", "first", "line", "here", "other", "scale", "cell", "at"] ["book"] (defScope (topS 18)) := ⟨rfl, rfl, rfl, by decide +kernel, rfl, by decide +kernel, by decide +kernel⟩
theorem ok_scales_of (fr : Free mg) (k_ONE : CK K mg "ONE" ONEd) (k_ZERO : CK K mg "ZERO" ZEROd) (c_factor_of : DefP P w K mg base 1 "factor_of" F_factor_of) (c_scale_beside : DefP P w K mg base 3 "scale_beside" F_scale_beside) (F : Fun K "scales_of" "scales_of" (topS 18) f fd) (hm : mg "scales_of" = some (.ref f)) : DefP P w K mg base 4 "scales_of" F_scales_of :=
  defP (N := ["book", "scales", "first", "line", "here", "other", "scale", "cell", "at"]) (ps := ["book"]) F hm (F.binds fun _ _ _ _ _ _ us hl => match us, hl with | [_], _ => rfl) sc_scales_of fun cdv A outer s H hr =>
    (ss_cons (ss_if (SW.st (sw_or (st_val (se_callB (cr_any (by rfl)) rn_any (by rfl) fr.any PyProof.Rows.boot_any (sa_cons (se_frz (sf_of_l (sl_lc (own := [("cell", 7)]) (by rfl) sc_scales_of.nd (blkOk_by (by kernel_rfl)) (by decide) (si_tp (se_var 0)) (fun _ _ _ _ _ => (sg_nm 7 sc_scales_of.nd)) (fun _ _ _ _ _ => sts_nil) (fun _ _ _ _ _ => (se_gt (se_callB call_len_seq rn_len (by rfl) fr.len PySem.boot_len (sa_cons (se_var 7) sa_nil)) se_int))))) sa_nil))) (sw_or1 (st_val (se_callB (cr_any (by rfl)) rn_any (by rfl) fr.any PyProof.Rows.boot_any (sa_cons (se_frz (sf_of_l (sl_lc (own := [("at", 8)]) (by rfl) sc_scales_of.nd (blkOk_by (by kernel_rfl)) (by decide) (si_rg1 (by rfl) fr.range (se_callB call_len_seq rn_len (by rfl) fr.len PySem.boot_len (sa_cons (se_var 0) sa_nil))) (fun _ _ _ _ _ => (sg_nm 8 sc_scales_of.nd)) (fun _ _ _ _ _ => sts_nil) (fun _ _ _ _ _ => (se_ne (hr.rm.units) (se_callP c_factor_of hr (sa_cons (se_var 0) (sa_cons (se_var 8) (sa_cons (se_var 8) sa_nil)))) (se_const k_ZERO)))))) sa_nil)))))) (ss_one (ss_ret se_non)) ss_nil) (ss_cons (ss_set 1 sc_scales_of.nd se_dicK) (ss_cons (ss_for PassesOwn.never (by rfl) (si_rg1 (by rfl) fr.range (se_callB call_len_seq rn_len (by rfl) fr.len PySem.boot_len (sa_cons (se_var 0) sa_nil))) (sg_nm 2 sc_scales_of.nd) (ss_forget [2, 3, 4, 5, 6] (ss_cons (ss_set 3 sc_scales_of.nd (se_if (st_din hr (se_var 2) (se_var 1)) (se_own (sf_lst sa_nil)) (se_own (sf_lst (sa_cons (se_var 2) sa_nil))))) (ss_cons (ss_exp (se_setd (se_var 1) (se_var 2) (se_const k_ONE))) (ss_one (ss_while PassesOwn.never (st_tru (se_var 3)) (ss_forget [4, 5, 6] (ss_cons (ss_set 4 sc_scales_of.nd (se_pop (se_var 3))) (ss_one (ss_for PassesOwn.never (by rfl) (si_rg1 (by rfl) fr.range (se_callB call_len_seq rn_len (by rfl) fr.len PySem.boot_len (sa_cons (se_var 0) sa_nil))) (sg_nm 5 sc_scales_of.nd) (ss_forget [5, 6] (ss_one (ss_if (st_ne (hr.rm.units) (se_callP c_factor_of hr (sa_cons (se_var 0) (sa_cons (se_var 4) (sa_cons (se_var 5) sa_nil)))) (se_const k_ZERO)) (ss_cons (ss_set 6 sc_scales_of.nd (se_callP c_scale_beside hr (sa_cons (se_var 0) (sa_cons (se_var 4) (sa_cons (se_var 5) (sa_cons (se_dget hr (se_var 1) (se_var 4)) sa_nil)))))) (ss_cons (ss_if (SW.st (sw_or (st_isN (se_var 6)) (sw_or1 (st_ne (hr.rm.units) (se_dget2 hr (se_var 1) (se_var 5) (se_var 6)) (se_var 6))))) (ss_one (ss_ret se_non)) ss_nil) (ss_one (ss_if (st_dnotin hr (se_var 5) (se_var 1)) (ss_cons (ss_dput hr (se_var 1) (se_var 5) (se_var 6)) (ss_one (ss_exp (se_append (se_var 3) (se_var 5))))) ss_nil)))) (ss_one (ss_if (st_ne (hr.rm.units) (se_callP c_factor_of hr (sa_cons (se_var 0) (sa_cons (se_var 5) (sa_cons (se_var 4) sa_nil)))) (se_const k_ZERO)) (ss_one (ss_ret se_non)) ss_nil))))))))))))))) (ss_one (ss_ret (se_callTy call_tuple_of rn_tuple (by rfl) fr.tuple PyProof.Rows.boot_tuple (sa_cons (se_frz (sf_of_l (sl_lc (own := [("cell", 7)]) (by rfl) sc_scales_of.nd (blkOk_by (by kernel_rfl)) (by decide) (si_rg1 (by rfl) fr.range (se_callB call_len_seq rn_len (by rfl) fr.len PySem.boot_len (sa_cons (se_var 0) sa_nil))) (fun _ _ _ _ _ => (sg_nm 7 sc_scales_of.nd)) (fun _ _ _ _ _ => sts_nil) (fun _ _ _ _ _ => (se_dget hr (se_var 1) (se_var 7)))))) sa_nil)))))))
theorem sc_need_scales : FnScope ["book", "scales"] ["book"] (defScope (topS 19)) := ⟨rfl, rfl, rfl, by decide +kernel, rfl, by decide +kernel, by decide +kernel⟩
theorem ok_need_scales (fr : Free mg) {C_NotEven : Addr} (x_NotEven : ExCls K mg "NotEven" C_NotEven) (c_scales_of : DefP P w K mg base 4 "scales_of" F_scales_of) (F : Fun K "need_scales" "need_scales" (topS 19) f fd) (hm : mg "need_scales" = some (.ref f)) : DefX P w K mg base 5 "need_scales" F_need_scales :=
  defX (N := ["book", "scales"]) (ps := ["book"]) F hm (F.binds fun _ _ _ _ _ _ us hl => match us, hl with | [_], _ => rfl) sc_need_scales fun W cdv A outer s H E hr tk =>
    (ss_cons (ss_set 1 sc_need_scales.nd (se_callP c_scales_of hr (sa_cons (se_var 0) sa_nil))) (ss_cons (ss_if (st_isN (se_var 1)) (ss_one (ss_raise x_NotEven tk rfl rfl)) ss_nil) (ss_one (ss_ret (se_var 1)))))
theorem sc_energy_rows : FnScope ["book", "rows", "cell", "scale", "row", "factor"] ["book"] (defScope (topS 20)) := ⟨rfl, rfl, rfl, by decide +kernel, rfl, by decide +kernel, by decide +kernel⟩
theorem ok_energy_rows (fr : Free mg) (k_ZERO : CK K mg "ZERO" ZEROd) (c_less : DefP P w K mg base 2 "less" F_less) (c_need_scales : DefX P w K mg base 5 "need_scales" F_need_scales) (c_times : DefP P w K mg base 2 "times" F_times) (F : Fun K "energy_rows" "energy_rows" (topS 20) f fd) (hm : mg "energy_rows" = some (.ref f)) : DefX P w K mg base 6 "energy_rows" F_energy_rows :=
  defX (N := ["book", "rows", "cell", "scale", "row", "factor"]) (ps := ["book"]) F hm (F.binds fun _ _ _ _ _ _ us hl => match us, hl with | [_], _ => rfl) sc_energy_rows fun W cdv A outer s H E hr tk =>
    (ss_cons (ss_set 1 sc_energy_rows.nd (se_own (sf_lst sa_nil))) (ss_cons (ss_for (passes_of rfl) (by rfl) (si_en (by rfl) fr.enumerate (se_callX c_need_scales hr tk (sa_cons (se_var 0) sa_nil))) (sg_tp (by rfl) (sgs_cons (sg_nm 2 sc_energy_rows.nd) (sgs_cons (sg_nm 3 sc_energy_rows.nd) sgs_nil))) (ss_forget [2, 3, 4] (ss_cons (ss_setLc (own := [("factor", 5)]) 4 (by rfl) sc_energy_rows.nd (blkOk_by (by kernel_rfl)) (by decide) (si_tp (se_ix (se_ix (se_ix (se_var 0) (se_var 2)) se_int) se_int)) (fun _ _ _ _ _ => (sg_nm 5 sc_energy_rows.nd)) (fun _ _ _ _ _ => sts_nil) (fun _ _ _ _ _ => (se_callP c_less hr (sa_cons (se_const k_ZERO) (sa_cons (se_callP c_times hr (sa_cons (se_var 3) (sa_cons (se_var 5) sa_nil))) sa_nil)))) k_own (by rfl)) (ss_cons (ss_setIx (se_var 4) (se_var 2) (se_var 3)) (ss_one (ss_exp (se_appL (se_var 1) (se_var 4)))))))) (ss_one (ss_ret (se_var 1)))))
theorem sc_energy : FnScope ["book", "values", "found", "row", "value", "item", "other"] ["book", "values"] (defScope (topS 21)) := ⟨rfl, rfl, rfl, by decide +kernel, rfl, by decide +kernel, by decide +kernel⟩
theorem ok_energy (fr : Free mg) (k_ZERO : CK K mg "ZERO" ZEROd) (c_energy_rows : DefX P w K mg base 6 "energy_rows" F_energy_rows) (c_plus : DefP P w K mg base 2 "plus" F_plus) (c_times : DefP P w K mg base 2 "times" F_times) (F : Fun K "energy" "energy" (topS 21) f fd) (hm : mg "energy" = some (.ref f)) : DefX P w K mg base 7 "energy" F_energy :=
  defX (N := ["book", "values", "found", "row", "value", "item", "other"]) (ps := ["book", "values"]) F hm (F.binds fun _ _ _ _ _ _ us hl => match us, hl with | [_, _], _ => rfl) sc_energy fun W cdv A outer s H E hr tk =>
    (ss_cons (ss_set 2 sc_energy.nd (se_const k_ZERO)) (ss_cons (ss_for (passes_of rfl) (by rfl) (si_zp (by rfl) fr.zip (se_callX c_energy_rows hr tk (sa_cons (se_var 0) sa_nil)) (se_var 1)) (sg_tp (by rfl) (sgs_cons (sg_nm 3 sc_energy.nd) (sgs_cons (sg_nm 4 sc_energy.nd) sgs_nil))) (ss_forget [3, 4, 5, 6] (ss_one (ss_for (passes_of rfl) (by rfl) (si_zp (by rfl) fr.zip (se_var 3) (se_var 1)) (sg_tp (by rfl) (sgs_cons (sg_nm 5 sc_energy.nd) (sgs_cons (sg_nm 6 sc_energy.nd) sgs_nil))) (ss_forget [5, 6] (ss_one (ss_set 2 sc_energy.nd (se_callP c_plus hr (sa_cons (se_var 2) (sa_cons (se_callP c_times hr (sa_cons (se_var 5) (sa_cons (se_callP c_times hr (sa_cons (se_var 4) (sa_cons (se_var 6) sa_nil))) sa_nil))) sa_nil)))))))))) (ss_one (ss_ret (se_var 2)))))
theorem sc_squares_until : FnScope ["rows", "found", "at", "part", "shares", "one", "by", "other", "row", "item"] ["rows"] (defScope (topS 22)) := ⟨rfl, rfl, rfl, by decide +kernel, rfl, by decide +kernel, by decide +kernel⟩
theorem ok_squares_until (fr : Free mg) (k_ZERO : CK K mg "ZERO" ZEROd) (c_compare : DefP P w K mg base 1 "compare" F_compare) (c_less : DefP P w K mg base 2 "less" F_less) (c_over : DefP P w K mg base 2 "over" F_over) (c_times : DefP P w K mg base 2 "times" F_times) (F : Fun K "squares_until" "squares_until" (topS 22) f fd) (hm : mg "squares_until" = some (.ref f)) : DefP P w K mg base 3 "squares_until" F_squares_until :=
  defP (N := ["rows", "found", "at", "part", "shares", "one", "by", "other", "row", "item"]) (ps := ["rows"]) F hm (F.binds fun _ _ _ _ _ _ us hl => match us, hl with | [_], _ => rfl) sc_squares_until fun cdv A outer s H hr =>
    (ss_cons (ss_par2 0 1 (by rfl) sc_squares_until.nd (sa_cons (se_of_l (sl_lc (own := [("row", 8)]) (by rfl) sc_squares_until.nd (blkOk_by (by kernel_rfl)) (by decide) (si_lst (se_var 0)) (fun _ _ _ _ _ => (sg_nm 8 sc_squares_until.nd)) (fun _ _ _ _ _ => sts_nil) (fun _ _ _ _ _ => (se_own (sf_callTy call_list_of rn_list (by rfl) fr.list PyProof.Rows.boot_list (sa_cons (se_var 8) sa_nil)))))) (sa_cons (se_own (sf_lst sa_nil)) sa_nil))) (ss_cons (ss_for PassesOwn.never (by rfl) (si_rg1 (by rfl) fr.range (se_lenL (by rfl) fr.len (se_var 0))) (sg_nm 2 sc_squares_until.nd) (ss_forget [2, 3, 4, 5, 6, 7] (ss_cons (ss_set 3 sc_squares_until.nd (se_ix (se_ix (se_var 0) (se_var 2)) (se_var 2))) (ss_cons (ss_if (st_le (se_callP c_compare hr (sa_cons (se_var 3) (sa_cons (se_const k_ZERO) sa_nil))) se_int) (ss_one (ss_ret (se_frz (sf_add (se_var 1) (se_frz (sf_lst (sa_cons (se_tup (sa_cons (se_var 3) (sa_cons (se_tup sa_nil) sa_nil))) sa_nil))))))) ss_nil) (ss_cons (ss_setLc (own := [("item", 9)]) 4 (by rfl) sc_squares_until.nd (blkOk_by (by kernel_rfl)) (by decide) (si_lst (se_frz (sf_sl (se_ix (se_var 0) (se_var 2)) (so_some (se_add (se_var 2) se_int)) so_none))) (fun _ _ _ _ _ => (sg_nm 9 sc_squares_until.nd)) (fun _ _ _ _ _ => sts_nil) (fun _ _ _ _ _ => (se_callP c_over hr (sa_cons (se_var 9) (sa_cons (se_var 3) sa_nil)))) k_frz (by rfl)) (ss_cons (ss_exp (se_append (se_var 1) (se_tup (sa_cons (se_var 3) (sa_cons (se_callTy call_tuple_of rn_tuple (by rfl) fr.tuple PyProof.Rows.boot_tuple (sa_cons (se_var 4) sa_nil)) sa_nil))))) (ss_one (ss_for PassesOwn.never (by rfl) (si_rg2 (by rfl) fr.range (se_add (se_var 2) se_int) (se_lenL (by rfl) fr.len (se_var 0))) (sg_nm 5 sc_squares_until.nd) (ss_forget [5, 6, 7] (ss_cons (ss_set 6 sc_squares_until.nd (se_ix (se_ix (se_var 0) (se_var 5)) (se_var 2))) (ss_one (ss_for PassesOwn.never (by rfl) (si_rg2 (by rfl) fr.range (se_add (se_var 2) se_int) (se_lenL (by rfl) fr.len (se_var 0))) (sg_nm 7 sc_squares_until.nd) (ss_forget [7] (ss_one (ss_setIx (se_ix (se_var 0) (se_var 5)) (se_var 7) (se_callP c_less hr (sa_cons (se_ix (se_ix (se_var 0) (se_var 5)) (se_var 7)) (sa_cons (se_callP c_times hr (sa_cons (se_var 6) (sa_cons (se_ix (se_var 4) (se_sub (se_sub (se_var 7) (se_var 2)) se_int)) sa_nil))) sa_nil)))))))))))))))))) (ss_one (ss_ret (se_var 1)))))
theorem sc_squares_of : FnScope ["book", "found"] ["book"] (defScope (topS 23)) := ⟨rfl, rfl, rfl, by decide +kernel, rfl, by decide +kernel, by decide +kernel⟩
theorem ok_squares_of (fr : Free mg) (k_ZERO : CK K mg "ZERO" ZEROd) (c_compare : DefP P w K mg base 1 "compare" F_compare) (c_energy_rows : DefX P w K mg base 6 "energy_rows" F_energy_rows) (c_squares_until : DefP P w K mg base 3 "squares_until" F_squares_until) (F : Fun K "squares_of" "squares_of" (topS 23) f fd) (hm : mg "squares_of" = some (.ref f)) : DefX P w K mg base 7 "squares_of" F_squares_of :=
  defX (N := ["book", "found"]) (ps := ["book"]) F hm (F.binds fun _ _ _ _ _ _ us hl => match us, hl with | [_], _ => rfl) sc_squares_of fun W cdv A outer s H E hr tk =>
    (ss_cons (ss_set 1 sc_squares_of.nd (se_callP c_squares_until hr (sa_cons (se_callX c_energy_rows hr tk (sa_cons (se_var 0) sa_nil)) sa_nil))) (ss_one (ss_ret (se_if (st_gt (se_callP c_compare hr (sa_cons (se_ix (se_ix (se_var 1) (se_neg se_int)) se_int) (sa_cons (se_const k_ZERO) sa_nil))) se_int) (se_callTy call_tuple_of rn_tuple (by rfl) fr.tuple PyProof.Rows.boot_tuple (sa_cons (se_var 1) sa_nil)) se_non))))
theorem sc_low_values : FnScope ["book", "found", "values", "last", "cell", "share", "value"] ["book"] (defScope (topS 24)) := ⟨rfl, rfl, rfl, by decide +kernel, rfl, by decide +kernel, by decide +kernel⟩
theorem ok_low_values (fr : Free mg) (k_ONE : CK K mg "ONE" ONEd) (k_ZERO : CK K mg "ZERO" ZEROd) (c_compare : DefP P w K mg base 1 "compare" F_compare) (c_energy_rows : DefX P w K mg base 6 "energy_rows" F_energy_rows) (c_less : DefP P w K mg base 2 "less" F_less) (c_squares_until : DefP P w K mg base 3 "squares_until" F_squares_until) (c_times : DefP P w K mg base 2 "times" F_times) (F : Fun K "low_values" "low_values" (topS 24) f fd) (hm : mg "low_values" = some (.ref f)) : DefX P w K mg base 7 "low_values" F_low_values :=
  defX (N := ["book", "found", "values", "last", "cell", "share", "value"]) (ps := ["book"]) F hm (F.binds fun _ _ _ _ _ _ us hl => match us, hl with | [_], _ => rfl) sc_low_values fun W cdv A outer s H E hr tk =>
    (ss_cons (ss_set 1 sc_low_values.nd (se_callP c_squares_until hr (sa_cons (se_callX c_energy_rows hr tk (sa_cons (se_var 0) sa_nil)) sa_nil))) (ss_cons (ss_if (st_gt (se_callP c_compare hr (sa_cons (se_ix (se_ix (se_var 1) (se_neg se_int)) se_int) (sa_cons (se_const k_ZERO) sa_nil))) se_int) (ss_one (ss_ret se_non)) ss_nil) (ss_cons (ss_set 2 sc_low_values.nd (se_own (sf_mul (se_frz (sf_lst (sa_cons (se_const k_ZERO) sa_nil))) (se_callB call_len_seq rn_len (by rfl) fr.len PySem.boot_len (sa_cons (se_var 0) sa_nil))))) (ss_cons (ss_set 3 sc_low_values.nd (se_sub (se_callB call_len_seq rn_len (by rfl) fr.len PySem.boot_len (sa_cons (se_var 1) sa_nil)) se_int)) (ss_cons (ss_setIx (se_var 2) (se_var 3) (se_const k_ONE)) (ss_cons (ss_for (passes_of rfl) (by rfl) (si_rgD (by rfl) fr.range (se_sub (se_var 3) se_int) (se_neg se_int)) (sg_nm 4 sc_low_values.nd) (ss_forget [4, 5, 6] (ss_one (ss_for (passes_of rfl) (by rfl) (si_zp (by rfl) fr.zip (se_ix (se_ix (se_var 1) (se_var 4)) se_int) (se_frz (sf_sl (se_var 2) (so_some (se_add (se_var 4) se_int)) so_none))) (sg_tp (by rfl) (sgs_cons (sg_nm 5 sc_low_values.nd) (sgs_cons (sg_nm 6 sc_low_values.nd) sgs_nil))) (ss_forget [5, 6] (ss_one (ss_setIx (se_var 2) (se_var 4) (se_callP c_less hr (sa_cons (se_ix (se_var 2) (se_var 4)) (sa_cons (se_callP c_times hr (sa_cons (se_var 5) (sa_cons (se_var 6) sa_nil))) sa_nil)))))))))) (ss_one (ss_ret (se_callTy call_tuple_of rn_tuple (by rfl) fr.tuple PyProof.Rows.boot_tuple (sa_cons (se_var 2) sa_nil))))))))))
theorem sc__law_bag : FnScope ["_law_script", "_law_cell"] ["_law_script"] (defScope (topS 26)) := ⟨rfl, rfl, rfl, by decide +kernel, rfl, by decide +kernel, by decide +kernel⟩
theorem ok__law_bag (fr : Free mg) (F : Fun K "_law_bag" "_law_bag" (topS 26) f fd) (hm : mg "_law_bag" = some (.ref f)) : DefS P w K mg base 1 "_law_bag" F__law_bag :=
  defL (N := ["_law_script", "_law_cell"]) (ps := ["_law_script"]) F hm (F.binds fun _ _ _ _ _ _ us hl => match us, hl with | [_], _ => rfl) sc__law_bag fun cdv A outer s H hr =>
    (ss_one (ss_ret (se_own (sf_lst (sa_cons se_int (sa_cons se_int (sa_cons se_int (sa_cons (se_frz (sf_of_l (sl_lc (own := [("_law_cell", 1)]) (by rfl) sc__law_bag.nd (blkOk_by (by kernel_rfl)) (by decide) (si_lst (se_frz (sf_sl (se_var 0) so_none (so_some se_int)))) (fun _ _ _ _ _ => (sg_nm 1 sc__law_bag.nd)) (fun _ _ _ _ _ => sts_nil) (fun _ _ _ _ _ => (se_callB call_abs rn_abs (by rfl) fr.abs PyProof.Rows.boot_abs (sa_cons (se_var 1) sa_nil)))))) sa_nil))))))))
theorem sc__law_take : FnScope ["_law_bag_here", "_law_many", "_law_cell", "_law_stirred", "_law_value_here", "_law_begin", "_law_second"] ["_law_bag_here", "_law_many"] (defScope (topS 27)) := ⟨rfl, rfl, rfl, by decide +kernel, rfl, by decide +kernel, by decide +kernel⟩
theorem ok__law_take (fr : Free mg) (F : Fun K "_law_take" "_law_take" (topS 27) f fd) (hm : mg "_law_take" = some (.ref f)) : DefS P w K mg base 1 "_law_take" F__law_take :=
  defS (N := ["_law_bag_here", "_law_many", "_law_cell", "_law_stirred", "_law_value_here", "_law_begin", "_law_second"]) (ps := ["_law_bag_here", "_law_many"]) F hm (F.binds fun _ _ _ _ _ _ us hl => match us, hl with | [_, _], _ => rfl) sc__law_take fun cdv A outer s H hr =>
    (ss_cons (ss_if (st_eq (hr.rm.units) (se_ix (se_var 0) se_int) se_int) (ss_cons (ss_set 2 sc__law_take.nd (se_ix (se_frz (sf_add (se_frz (sf_sl (se_ix (se_var 0) se_int) (so_some (se_ix (se_var 0) se_int)) so_none)) (se_frz (sf_lst (sa_cons se_int sa_nil))))) se_int)) (ss_cons (ss_augIx (se_var 0) se_int se_int ip_add) (ss_cons (ss_if (st_ge (se_var 2) (se_pow se_int se_int)) (ss_one (ss_setIx (se_var 0) se_int (se_var 2))) ss_nil) (ss_cons (ss_set 3 sc__law_take.nd (se_add (se_add (se_mul (se_ix (se_var 0) se_int) se_int) (se_mod (se_callTy call_int1 rn_int (by rfl) fr.int PyProof.Rows.boot_int (sa_cons (se_var 2) sa_nil)) se_int)) (se_mul se_int (se_ix (se_var 0) se_int)))) (ss_one (ss_setIx (se_var 0) se_int (se_mod (se_callTy call_int1 rn_int (by rfl) fr.int PyProof.Rows.boot_int (sa_cons (se_var 3) sa_nil)) se_int))))))) ss_nil) (ss_cons (ss_if (st_gt (se_ix (se_var 0) se_int) se_int) (ss_cons (ss_set 4 sc__law_take.nd (se_mod (se_callTy call_int1 rn_int (by rfl) fr.int PyProof.Rows.boot_int (sa_cons (se_ix (se_var 0) se_int) sa_nil)) (se_var 1))) (ss_cons (ss_setIx (se_var 0) se_int (se_div (se_callTy call_int1 rn_int (by rfl) fr.int PyProof.Rows.boot_int (sa_cons (se_ix (se_var 0) se_int) sa_nil)) (se_var 1))) (ss_one (ss_ret (se_var 4))))) ss_nil) (ss_cons (ss_set 5 sc__law_take.nd (se_mod (se_callTy call_int1 rn_int (by rfl) fr.int PyProof.Rows.boot_int (sa_cons (se_mul (se_add (se_ix (se_var 0) se_int) se_int) se_int) sa_nil)) se_int)) (ss_cons (ss_set 6 sc__law_take.nd (se_mod (se_callTy call_int1 rn_int (by rfl) fr.int PyProof.Rows.boot_int (sa_cons (se_mul (se_mod (se_callTy call_int1 rn_int (by rfl) fr.int PyProof.Rows.boot_int (sa_cons (se_mul (se_var 5) (se_var 5)) sa_nil)) se_int) se_int) sa_nil)) se_int)) (ss_one (ss_ret (se_mod (se_callTy call_int1 rn_int (by rfl) fr.int PyProof.Rows.boot_int (sa_cons (se_div (se_var 6) se_int) sa_nil)) (se_var 1))))))))
theorem sc__law_some : FnScope ["_law_bag_here", "_law_things"] ["_law_bag_here", "_law_things"] (defScope (topS 28)) := ⟨rfl, rfl, rfl, by decide +kernel, rfl, by decide +kernel, by decide +kernel⟩
theorem ok__law_some (fr : Free mg) (c__law_take : DefS P w K mg base 1 "_law_take" F__law_take) (F : Fun K "_law_some" "_law_some" (topS 28) f fd) (hm : mg "_law_some" = some (.ref f)) : DefS P w K mg base 2 "_law_some" F__law_some :=
  defS (N := ["_law_bag_here", "_law_things"]) (ps := ["_law_bag_here", "_law_things"]) F hm (F.binds fun _ _ _ _ _ _ us hl => match us, hl with | [_, _], _ => rfl) sc__law_some fun cdv A outer s H hr =>
    (ss_one (ss_ret (se_ix (se_var 1) (se_callS c__law_take hr (sa_cons (se_var 0) (sa_cons (se_callB call_len_seq rn_len (by rfl) fr.len PySem.boot_len (sa_cons (se_var 1) sa_nil)) sa_nil))))))
theorem sc__law_mixed : FnScope ["_law_bag_here", "_law_things", "_law_found", "_law_thing"] ["_law_bag_here", "_law_things"] (defScope (topS 29)) := ⟨rfl, rfl, rfl, by decide +kernel, rfl, by decide +kernel, by decide +kernel⟩
theorem ok__law_mixed (fr : Free mg) (c__law_take : DefS P w K mg base 1 "_law_take" F__law_take) (F : Fun K "_law_mixed" "_law_mixed" (topS 29) f fd) (hm : mg "_law_mixed" = some (.ref f)) : DefS P w K mg base 2 "_law_mixed" F__law_mixed :=
  defS (N := ["_law_bag_here", "_law_things", "_law_found", "_law_thing"]) (ps := ["_law_bag_here", "_law_things"]) F hm (F.binds fun _ _ _ _ _ _ us hl => match us, hl with | [_, _], _ => rfl) sc__law_mixed fun cdv A outer s H hr =>
    (ss_cons (ss_set 2 sc__law_mixed.nd (se_own (sf_lst sa_nil))) (ss_cons (ss_for PassesOwn.never (by rfl) (si_lst (se_var 1)) (sg_nm 3 sc__law_mixed.nd) (ss_forget [3] (ss_one (ss_exp (se_insert (se_var 2) (se_callS c__law_take hr (sa_cons (se_var 0) (sa_cons (se_add (se_callB call_len_seq rn_len (by rfl) fr.len PySem.boot_len (sa_cons (se_var 2) sa_nil)) se_int) sa_nil))) (se_var 3)))))) (ss_one (ss_ret (se_var 2)))))
theorem sc__law_alike : FnScope ["_law_found", "_law_due"] ["_law_found", "_law_due"] (defScope (topS 30)) := ⟨rfl, rfl, rfl, by decide +kernel, rfl, by decide +kernel, by decide +kernel⟩
theorem ok__law_alike (fr : Free mg) (F : Fun K "_law_alike" "_law_alike" (topS 30) f fd) (hm : mg "_law_alike" = some (.ref f)) : DefP P w K mg base 1 "_law_alike" F__law_alike :=
  defP (N := ["_law_found", "_law_due"]) (ps := ["_law_found", "_law_due"]) F hm (F.binds fun _ _ _ _ _ _ us hl => match us, hl with | [_, _], _ => rfl) sc__law_alike fun cdv A outer s H hr =>
    (ss_one (ss_ret (se_and (se_eq (hr.rm.units) (se_var 0) (se_var 1)) (se_one (se_eq (hr.rm.units) (se_callB (call_repr hr) rn_repr (by rfl) fr.repr PyProof.Rows.boot_repr (sa_cons (se_var 0) sa_nil)) (se_callB (call_repr hr) rn_repr (by rfl) fr.repr PyProof.Rows.boot_repr (sa_cons (se_var 1) sa_nil)))))))
theorem sc__law_gcd : FnScope ["_law_one", "_law_other"] ["_law_one", "_law_other"] (defScope (topS 31)) := ⟨rfl, rfl, rfl, by decide +kernel, rfl, by decide +kernel, by decide +kernel⟩
theorem ok__law_gcd (fr : Free mg) (F : Fun K "_law_gcd" "_law_gcd" (topS 31) f fd) (hm : mg "_law_gcd" = some (.ref f)) : DefP P w K mg base 1 "_law_gcd" F__law_gcd :=
  defP (N := ["_law_one", "_law_other"]) (ps := ["_law_one", "_law_other"]) F hm (F.binds fun _ _ _ _ _ _ us hl => match us, hl with | [_, _], _ => rfl) sc__law_gcd fun cdv A outer s H hr =>
    (ss_cons (ss_par2 0 1 (by rfl) sc__law_gcd.nd (sa_cons (se_callB call_abs rn_abs (by rfl) fr.abs PyProof.Rows.boot_abs (sa_cons (se_var 0) sa_nil)) (sa_cons (se_callB call_abs rn_abs (by rfl) fr.abs PyProof.Rows.boot_abs (sa_cons (se_var 1) sa_nil)) sa_nil))) (ss_cons (ss_while PassesOwn.never (st_gt (se_var 1) se_int) (ss_one (ss_par2 0 1 (by rfl) sc__law_gcd.nd (sa_cons (se_var 1) (sa_cons (se_sub (se_var 0) (se_mul (se_div (se_var 0) (se_var 1)) (se_var 1))) sa_nil))))) (ss_one (ss_ret (se_var 0)))))
theorem sc__law_f : FnScope ["_law_num", "_law_den", "_law_part"] ["_law_num", "_law_den"] (defScope (topS 32)) := ⟨rfl, rfl, rfl, by decide +kernel, rfl, by decide +kernel, by decide +kernel⟩
theorem ok__law_f (fr : Free mg) (c__law_gcd : DefP P w K mg base 1 "_law_gcd" F__law_gcd) (F : Fun K "_law_f" "_law_f" (topS 32) f fd) (hm : mg "_law_f" = some (.ref f)) : DefP P w K mg base 2 "_law_f" F__law_f :=
  defP (N := ["_law_num", "_law_den", "_law_part"]) (ps := ["_law_num", "_law_den"]) F hm (F.binds fun _ _ _ _ _ _ us hl => match us, hl with | [_, _], _ => rfl) sc__law_f fun cdv A outer s H hr =>
    (ss_cons (ss_set 2 sc__law_f.nd (se_mul (se_callP c__law_gcd hr (sa_cons (se_var 0) (sa_cons (se_var 1) sa_nil))) (se_if (st_gt (se_var 1) se_int) se_int (se_neg se_int)))) (ss_one (ss_ret (se_tup (sa_cons (se_div (se_var 0) (se_var 2)) (sa_cons (se_div (se_var 1) (se_var 2)) sa_nil))))))
theorem sc__law_plus : FnScope ["_law_one", "_law_other"] ["_law_one", "_law_other"] (defScope (topS 33)) := ⟨rfl, rfl, rfl, by decide +kernel, rfl, by decide +kernel, by decide +kernel⟩
theorem ok__law_plus (fr : Free mg) (c__law_f : DefP P w K mg base 2 "_law_f" F__law_f) (F : Fun K "_law_plus" "_law_plus" (topS 33) f fd) (hm : mg "_law_plus" = some (.ref f)) : DefP P w K mg base 3 "_law_plus" F__law_plus :=
  defP (N := ["_law_one", "_law_other"]) (ps := ["_law_one", "_law_other"]) F hm (F.binds fun _ _ _ _ _ _ us hl => match us, hl with | [_, _], _ => rfl) sc__law_plus fun cdv A outer s H hr =>
    (ss_one (ss_ret (se_callP c__law_f hr (sa_cons (se_add (se_mul (se_ix (se_var 0) se_int) (se_ix (se_var 1) se_int)) (se_mul (se_ix (se_var 1) se_int) (se_ix (se_var 0) se_int))) (sa_cons (se_mul (se_ix (se_var 0) se_int) (se_ix (se_var 1) se_int)) sa_nil)))))
theorem sc__law_minus : FnScope ["_law_one", "_law_other"] ["_law_one", "_law_other"] (defScope (topS 34)) := ⟨rfl, rfl, rfl, by decide +kernel, rfl, by decide +kernel, by decide +kernel⟩
theorem ok__law_minus (fr : Free mg) (c__law_f : DefP P w K mg base 2 "_law_f" F__law_f) (F : Fun K "_law_minus" "_law_minus" (topS 34) f fd) (hm : mg "_law_minus" = some (.ref f)) : DefP P w K mg base 3 "_law_minus" F__law_minus :=
  defP (N := ["_law_one", "_law_other"]) (ps := ["_law_one", "_law_other"]) F hm (F.binds fun _ _ _ _ _ _ us hl => match us, hl with | [_, _], _ => rfl) sc__law_minus fun cdv A outer s H hr =>
    (ss_one (ss_ret (se_callP c__law_f hr (sa_cons (se_sub (se_mul (se_ix (se_var 0) se_int) (se_ix (se_var 1) se_int)) (se_mul (se_ix (se_var 1) se_int) (se_ix (se_var 0) se_int))) (sa_cons (se_mul (se_ix (se_var 0) se_int) (se_ix (se_var 1) se_int)) sa_nil)))))
theorem sc__law_by : FnScope ["_law_one", "_law_other"] ["_law_one", "_law_other"] (defScope (topS 35)) := ⟨rfl, rfl, rfl, by decide +kernel, rfl, by decide +kernel, by decide +kernel⟩
theorem ok__law_by (fr : Free mg) (c__law_f : DefP P w K mg base 2 "_law_f" F__law_f) (F : Fun K "_law_by" "_law_by" (topS 35) f fd) (hm : mg "_law_by" = some (.ref f)) : DefP P w K mg base 3 "_law_by" F__law_by :=
  defP (N := ["_law_one", "_law_other"]) (ps := ["_law_one", "_law_other"]) F hm (F.binds fun _ _ _ _ _ _ us hl => match us, hl with | [_, _], _ => rfl) sc__law_by fun cdv A outer s H hr =>
    (ss_one (ss_ret (se_callP c__law_f hr (sa_cons (se_mul (se_ix (se_var 0) se_int) (se_ix (se_var 1) se_int)) (sa_cons (se_mul (se_ix (se_var 0) se_int) (se_ix (se_var 1) se_int)) sa_nil)))))
theorem sc__law_below : FnScope ["_law_one", "_law_other"] ["_law_one", "_law_other"] (defScope (topS 36)) := ⟨rfl, rfl, rfl, by decide +kernel, rfl, by decide +kernel, by decide +kernel⟩
theorem ok__law_below (fr : Free mg) (F : Fun K "_law_below" "_law_below" (topS 36) f fd) (hm : mg "_law_below" = some (.ref f)) : DefP P w K mg base 1 "_law_below" F__law_below :=
  defP (N := ["_law_one", "_law_other"]) (ps := ["_law_one", "_law_other"]) F hm (F.binds fun _ _ _ _ _ _ us hl => match us, hl with | [_, _], _ => rfl) sc__law_below fun cdv A outer s H hr =>
    (ss_one (ss_ret (se_lt (se_mul (se_ix (se_var 0) se_int) (se_ix (se_var 1) se_int)) (se_mul (se_ix (se_var 1) se_int) (se_ix (se_var 0) se_int)))))
theorem sc__law_total : FnScope ["_law_some_here", "_law_found", "_law_one"] ["_law_some_here"] (defScope (topS 37)) := ⟨rfl, rfl, rfl, by decide +kernel, rfl, by decide +kernel, by decide +kernel⟩
theorem ok__law_total (fr : Free mg) (c__law_plus : DefP P w K mg base 3 "_law_plus" F__law_plus) (F : Fun K "_law_total" "_law_total" (topS 37) f fd) (hm : mg "_law_total" = some (.ref f)) : DefP P w K mg base 4 "_law_total" F__law_total :=
  defP (N := ["_law_some_here", "_law_found", "_law_one"]) (ps := ["_law_some_here"]) F hm (F.binds fun _ _ _ _ _ _ us hl => match us, hl with | [_], _ => rfl) sc__law_total fun cdv A outer s H hr =>
    (ss_cons (ss_set 1 sc__law_total.nd (se_tup (sa_cons se_int (sa_cons se_int sa_nil)))) (ss_cons (ss_for PassesOwn.never (by rfl) (si_lst (se_var 0)) (sg_nm 2 sc__law_total.nd) (ss_forget [2] (ss_one (ss_set 1 sc__law_total.nd (se_callP c__law_plus hr (sa_cons (se_var 1) (sa_cons (se_var 2) sa_nil))))))) (ss_one (ss_ret (se_var 1)))))
theorem sc__law_value : FnScope ["_law_rule", "_law_values", "_law_factor", "_law_value_here"] ["_law_rule", "_law_values"] (defScope (topS 38)) := ⟨rfl, rfl, rfl, by decide +kernel, rfl, by decide +kernel, by decide +kernel⟩
theorem ok__law_value (fr : Free mg) (c__law_by : DefP P w K mg base 3 "_law_by" F__law_by) (c__law_total : DefP P w K mg base 4 "_law_total" F__law_total) (F : Fun K "_law_value" "_law_value" (topS 38) f fd) (hm : mg "_law_value" = some (.ref f)) : DefP P w K mg base 5 "_law_value" F__law_value :=
  defP (N := ["_law_rule", "_law_values", "_law_factor", "_law_value_here"]) (ps := ["_law_rule", "_law_values"]) F hm (F.binds fun _ _ _ _ _ _ us hl => match us, hl with | [_, _], _ => rfl) sc__law_value fun cdv A outer s H hr =>
    (ss_one (ss_ret (se_callP c__law_total hr (sa_cons (se_frz (sf_add (se_frz (sf_lst (sa_cons (se_ix (se_var 0) se_int) sa_nil))) (se_frz (sf_of_l (sl_lc (own := [("_law_factor", 2), ("_law_value_here", 3)]) (by rfl) sc__law_value.nd (blkOk_by (by kernel_rfl)) (by decide) (si_zp (by rfl) fr.zip (se_ix (se_var 0) se_int) (se_var 1)) (fun _ _ _ _ _ => (sg_tp (by rfl) (sgs_cons (sg_nm 2 sc__law_value.nd) (sgs_cons (sg_nm 3 sc__law_value.nd) sgs_nil)))) (fun _ _ _ _ _ => sts_one (st_ne (hr.rm.units) (se_ix (se_var 2) se_int) se_int)) (fun _ _ _ _ _ => (se_callP c__law_by hr (sa_cons (se_var 2) (sa_cons (se_var 3) sa_nil))))))))) sa_nil))))
theorem sc__law_some_fraction : FnScope ["_law_bag_here", "_law_menu"] ["_law_bag_here"] (defScope (topS 39)) := ⟨rfl, rfl, rfl, by decide +kernel, rfl, by decide +kernel, by decide +kernel⟩
theorem ok__law_some_fraction (fr : Free mg) (c__law_some : DefS P w K mg base 2 "_law_some" F__law_some) (c__law_take : DefS P w K mg base 1 "_law_take" F__law_take) (F : Fun K "_law_some_fraction" "_law_some_fraction" (topS 39) f fd) (hm : mg "_law_some_fraction" = some (.ref f)) : DefS P w K mg base 3 "_law_some_fraction" F__law_some_fraction :=
  defS (N := ["_law_bag_here", "_law_menu"]) (ps := ["_law_bag_here"]) F hm (F.binds fun _ _ _ _ _ _ us hl => match us, hl with | [_], _ => rfl) sc__law_some_fraction fun cdv A outer s H hr =>
    (ss_cons (ss_set 1 sc__law_some_fraction.nd (se_frz (sf_lst (sa_cons (se_tup (sa_cons se_int (sa_cons se_int sa_nil))) (sa_cons (se_tup (sa_cons se_int (sa_cons se_int sa_nil))) (sa_cons (se_tup (sa_cons (se_neg se_int) (sa_cons se_int sa_nil))) (sa_cons (se_tup (sa_cons se_int (sa_cons se_int sa_nil))) (sa_cons (se_tup (sa_cons (se_neg se_int) (sa_cons se_int sa_nil))) (sa_cons (se_tup (sa_cons se_int (sa_cons se_int sa_nil))) (sa_cons (se_tup (sa_cons se_int (sa_cons se_int sa_nil))) (sa_cons (se_tup (sa_cons (se_neg se_int) (sa_cons se_int sa_nil))) sa_nil))))))))))) (ss_one (ss_ret (se_callS c__law_some hr (sa_cons (se_var 0) (sa_cons (se_frz (sf_add (se_var 1) (se_frz (sf_lst (sa_cons (se_tup (sa_cons (se_sub (se_callS c__law_take hr (sa_cons (se_var 0) (sa_cons se_int sa_nil))) se_int) (sa_cons se_int sa_nil))) sa_nil))))) sa_nil))))))
theorem sc__law_shared_rule : FnScope ["_law_bag_here", "_law_cell", "_law_sizes", "_law_part", "_law_reads", "_law_marks", "_law_other", "_law_whole", "_law_factors", "_law_mark", "_law_share"] ["_law_bag_here", "_law_cell", "_law_sizes", "_law_part", "_law_reads"] (defScope (topS 40)) := ⟨rfl, rfl, rfl, by decide +kernel, rfl, by decide +kernel, by decide +kernel⟩
theorem ok__law_shared_rule (fr : Free mg) (c__law_by : DefP P w K mg base 3 "_law_by" F__law_by) (c__law_f : DefP P w K mg base 2 "_law_f" F__law_f) (c__law_some : DefS P w K mg base 2 "_law_some" F__law_some) (c__law_some_fraction : DefS P w K mg base 3 "_law_some_fraction" F__law_some_fraction) (c__law_take : DefS P w K mg base 1 "_law_take" F__law_take) (F : Fun K "_law_shared_rule" "_law_shared_rule" (topS 40) f fd) (hm : mg "_law_shared_rule" = some (.ref f)) : DefS P w K mg base 4 "_law_shared_rule" F__law_shared_rule :=
  defS (N := ["_law_bag_here", "_law_cell", "_law_sizes", "_law_part", "_law_reads", "_law_marks", "_law_other", "_law_whole", "_law_factors", "_law_mark", "_law_share"]) (ps := ["_law_bag_here", "_law_cell", "_law_sizes", "_law_part", "_law_reads"]) F hm (F.binds fun _ _ _ _ _ _ us hl => match us, hl with | [_, _, _, _, _], _ => rfl) sc__law_shared_rule fun cdv A outer s H hr =>
    (ss_cons (ss_set 5 sc__law_shared_rule.nd (se_own (sf_mul (se_frz (sf_lst (sa_cons se_int sa_nil))) (se_callB call_len_seq rn_len (by rfl) fr.len PySem.boot_len (sa_cons (se_var 2) sa_nil))))) (ss_cons (ss_for PassesOwn.never (by rfl) (si_lst (se_var 4)) (sg_nm 6 sc__law_shared_rule.nd) (ss_forget [6] (ss_one (ss_setIx (se_var 5) (se_var 6) (se_add se_int (se_callS c__law_take hr (sa_cons (se_var 0) (sa_cons se_int sa_nil)))))))) (ss_cons (ss_par2 7 8 (by rfl) sc__law_shared_rule.nd (sa_cons (se_callB (cr_sum (by rfl)) rn_sum (by rfl) fr.sum PyProof.Rows.boot_sum (sa_cons (se_var 5) sa_nil)) (sa_cons (se_own (sf_lst sa_nil)) sa_nil))) (ss_cons (ss_for PassesOwn.never (by rfl) (si_en (by rfl) fr.enumerate (se_var 5)) (sg_tp (by rfl) (sgs_cons (sg_nm 6 sc__law_shared_rule.nd) (sgs_cons (sg_nm 9 sc__law_shared_rule.nd) sgs_nil))) (ss_forget [6, 9, 10] (ss_cons (ss_set 10 sc__law_shared_rule.nd (se_callP c__law_f hr (sa_cons (se_mul (se_mul (se_ix (se_var 3) se_int) (se_ix (se_var 2) (se_var 1))) (se_var 9)) (sa_cons (se_mul (se_mul (se_ix (se_var 3) se_int) (se_callB (call_max2 (by rfl)) rn_max2 (by rfl) fr.max PyProof.Rows.boot_max (sa_cons (se_var 7) (sa_cons se_int sa_nil)))) (se_ix (se_var 2) (se_var 6))) sa_nil)))) (ss_one (ss_exp (se_append (se_var 8) (se_callP c__law_by hr (sa_cons (se_var 10) (sa_cons (se_callS c__law_some hr (sa_cons (se_var 0) (sa_cons (se_frz (sf_lst (sa_cons (se_tup (sa_cons se_int (sa_cons se_int sa_nil))) (sa_cons (se_tup (sa_cons se_int (sa_cons se_int sa_nil))) (sa_cons (se_tup (sa_cons (se_neg se_int) (sa_cons se_int sa_nil))) sa_nil))))) sa_nil))) sa_nil))))))))) (ss_one (ss_ret (se_tup (sa_cons (se_callS c__law_some_fraction hr (sa_cons (se_var 0) sa_nil)) (sa_cons (se_callTy call_tuple_of rn_tuple (by rfl) fr.tuple PyProof.Rows.boot_tuple (sa_cons (se_var 8) sa_nil)) sa_nil)))))))))
theorem sc__law_some_cells : FnScope ["_law_bag_here", "_law_many", "_law_cell"] ["_law_bag_here", "_law_many"] (defScope (topS 41)) := ⟨rfl, rfl, rfl, by decide +kernel, rfl, by decide +kernel, by decide +kernel⟩
theorem ok__law_some_cells (fr : Free mg) (c__law_take : DefS P w K mg base 1 "_law_take" F__law_take) (F : Fun K "_law_some_cells" "_law_some_cells" (topS 41) f fd) (hm : mg "_law_some_cells" = some (.ref f)) : DefS P w K mg base 2 "_law_some_cells" F__law_some_cells :=
  defS (N := ["_law_bag_here", "_law_many", "_law_cell"]) (ps := ["_law_bag_here", "_law_many"]) F hm (F.binds fun _ _ _ _ _ _ us hl => match us, hl with | [_, _], _ => rfl) sc__law_some_cells fun cdv A outer s H hr =>
    (ss_one (ss_ret (se_frz (sf_of_l (sl_lc (own := [("_law_cell", 2)]) (by rfl) sc__law_some_cells.nd (blkOk_by (by kernel_rfl)) (by decide) (si_rg1 (by rfl) fr.range (se_var 1)) (fun _ _ _ _ _ => (sg_nm 2 sc__law_some_cells.nd)) (fun _ _ _ _ _ => sts_one (st_eq (hr.rm.units) (se_callS c__law_take hr (sa_cons (se_var 0) (sa_cons se_int sa_nil))) se_int)) (fun _ _ _ _ _ => (se_var 2)))))))
theorem sc__law_light_book : FnScope ["_law_bag_here", "_law_most", "_law_many", "_law_sizes", "_law_book_here", "_law_cell", "_law_rules", "_law_turn", "_law_part", "_law_k", "_law_size"] ["_law_bag_here", "_law_most"] (defScope (topS 42)) := ⟨rfl, rfl, rfl, by decide +kernel, rfl, by decide +kernel, by decide +kernel⟩
theorem ok__law_light_book (fr : Free mg) (c__law_shared_rule : DefS P w K mg base 4 "_law_shared_rule" F__law_shared_rule) (c__law_some : DefS P w K mg base 2 "_law_some" F__law_some) (c__law_some_cells : DefS P w K mg base 2 "_law_some_cells" F__law_some_cells) (c__law_take : DefS P w K mg base 1 "_law_take" F__law_take) (F : Fun K "_law_light_book" "_law_light_book" (topS 42) f fd) (hm : mg "_law_light_book" = some (.ref f)) : DefS P w K mg base 5 "_law_light_book" F__law_light_book :=
  defS (N := ["_law_bag_here", "_law_most", "_law_many", "_law_sizes", "_law_book_here", "_law_cell", "_law_rules", "_law_turn", "_law_part", "_law_k", "_law_size"]) (ps := ["_law_bag_here", "_law_most"]) F hm (F.binds fun _ _ _ _ _ _ us hl => match us, hl with | [_, _], _ => rfl) sc__law_light_book fun cdv A outer s H hr =>
    (ss_cons (ss_set 2 sc__law_light_book.nd (se_add se_int (se_callS c__law_take hr (sa_cons (se_var 0) (sa_cons (se_var 1) sa_nil))))) (ss_cons (ss_par2 3 4 (by rfl) sc__law_light_book.nd (sa_cons (se_frz (sf_of_l (sl_lc (own := [("_law_k", 9)]) (by rfl) sc__law_light_book.nd (blkOk_by (by kernel_rfl)) (by decide) (si_rg1 (by rfl) fr.range (se_var 2)) (fun _ _ _ _ _ => (sg_nm 9 sc__law_light_book.nd)) (fun _ _ _ _ _ => sts_nil) (fun _ _ _ _ _ => (se_add se_int (se_callS c__law_take hr (sa_cons (se_var 0) (sa_cons se_int sa_nil)))))))) (sa_cons (se_own (sf_lst sa_nil)) sa_nil))) (ss_cons (ss_for PassesOwn.never (by rfl) (si_rg1 (by rfl) fr.range (se_var 2)) (sg_nm 5 sc__law_light_book.nd) (ss_forget [5, 6, 7, 8] (ss_cons (ss_set 6 sc__law_light_book.nd (se_own (sf_lst sa_nil))) (ss_cons (ss_for PassesOwn.never (by rfl) (si_rg1 (by rfl) fr.range (se_callS c__law_some hr (sa_cons (se_var 0) (sa_cons (se_frz (sf_lst (sa_cons se_int (sa_cons se_int (sa_cons se_int (sa_cons se_int sa_nil)))))) sa_nil)))) (sg_nm 7 sc__law_light_book.nd) (ss_forget [7, 8] (ss_cons (ss_set 8 sc__law_light_book.nd (se_callS c__law_some hr (sa_cons (se_var 0) (sa_cons (se_frz (sf_lst (sa_cons (se_tup (sa_cons se_int (sa_cons se_int sa_nil))) (sa_cons (se_tup (sa_cons se_int (sa_cons se_int sa_nil))) (sa_cons (se_tup (sa_cons se_int (sa_cons se_int sa_nil))) (sa_cons (se_tup (sa_cons se_int (sa_cons se_int sa_nil))) (sa_cons (se_tup (sa_cons se_int (sa_cons se_int sa_nil))) (sa_cons (se_tup (sa_cons se_int (sa_cons se_int sa_nil))) sa_nil)))))))) sa_nil)))) (ss_one (ss_exp (se_append (se_var 6) (se_callS c__law_shared_rule hr (sa_cons (se_var 0) (sa_cons (se_var 5) (sa_cons (se_var 3) (sa_cons (se_var 8) (sa_cons (se_callS c__law_some_cells hr (sa_cons (se_var 0) (sa_cons (se_var 2) sa_nil))) sa_nil)))))))))))) (ss_one (ss_exp (se_append (se_var 4) (se_callTy call_tuple_of rn_tuple (by rfl) fr.tuple PyProof.Rows.boot_tuple (sa_cons (se_var 6) sa_nil))))))))) (ss_one (ss_ret (se_tup (sa_cons (se_callTy call_tuple_of rn_tuple (by rfl) fr.tuple PyProof.Rows.boot_tuple (sa_cons (se_var 4) sa_nil)) (sa_cons (se_callTy call_tuple_of rn_tuple (by rfl) fr.tuple PyProof.Rows.boot_tuple (sa_cons (se_frz (sf_of_l (sl_lc (own := [("_law_size", 10)]) (by rfl) sc__law_light_book.nd (blkOk_by (by kernel_rfl)) (by decide) (si_lst (se_var 3)) (fun _ _ _ _ _ => (sg_nm 10 sc__law_light_book.nd)) (fun _ _ _ _ _ => sts_nil) (fun _ _ _ _ _ => (se_tup (sa_cons (se_var 10) (sa_cons se_int sa_nil))))))) sa_nil)) sa_nil))))))))
theorem sc__law_heavy_book : FnScope ["_law_bag_here", "_law_most", "_law_many", "_law_lot", "_law_sizes", "_law_book_here", "_law_choice", "_law_ring", "_law_cell", "_law_rules", "_law_turn", "_law_part", "_law_reads", "_law_later", "_law_at", "_law_k", "_law_one"] ["_law_bag_here", "_law_most"] (defScope (topS 43)) := ⟨rfl, rfl, rfl, by decide +kernel, rfl, by decide +kernel, by decide +kernel⟩
theorem ok__law_heavy_book (fr : Free mg) (c__law_mixed : DefS P w K mg base 2 "_law_mixed" F__law_mixed) (c__law_shared_rule : DefS P w K mg base 4 "_law_shared_rule" F__law_shared_rule) (c__law_some : DefS P w K mg base 2 "_law_some" F__law_some) (c__law_some_cells : DefS P w K mg base 2 "_law_some_cells" F__law_some_cells) (c__law_take : DefS P w K mg base 1 "_law_take" F__law_take) (F : Fun K "_law_heavy_book" "_law_heavy_book" (topS 43) f fd) (hm : mg "_law_heavy_book" = some (.ref f)) : DefS P w K mg base 5 "_law_heavy_book" F__law_heavy_book :=
  defS (N := ["_law_bag_here", "_law_most", "_law_many", "_law_lot", "_law_sizes", "_law_book_here", "_law_choice", "_law_ring", "_law_cell", "_law_rules", "_law_turn", "_law_part", "_law_reads", "_law_later", "_law_at", "_law_k", "_law_one"]) (ps := ["_law_bag_here", "_law_most"]) F hm (F.binds fun _ _ _ _ _ _ us hl => match us, hl with | [_, _], _ => rfl) sc__law_heavy_book fun cdv A outer s H hr =>
    (ss_cons (ss_set 2 sc__law_heavy_book.nd (se_add se_int (se_callS c__law_take hr (sa_cons (se_var 0) (sa_cons (se_var 1) sa_nil))))) (ss_cons (ss_set 3 sc__law_heavy_book.nd (se_frz (sf_callB cr_sortedI rn_sorted (by rfl) fr.sorted PyProof.Rows.boot_sorted (sa_cons (se_frz (sf_sl (se_callS c__law_mixed hr (sa_cons (se_var 0) (sa_cons (se_frz (sf_listR (by rfl) (by rfl) fr.list (by rfl) fr.range (se_var 2))) sa_nil))) so_none (so_some (se_add se_int (se_callS c__law_take hr (sa_cons (se_var 0) (sa_cons (se_var 2) sa_nil))))))) sa_nil)))) (ss_cons (ss_parT (by rfl) (sa_cons (se_frz (sf_of_l (sl_lc (own := [("_law_k", 15)]) (by rfl) sc__law_heavy_book.nd (blkOk_by (by kernel_rfl)) (by decide) (si_rg1 (by rfl) fr.range (se_var 2)) (fun _ _ _ _ _ => (sg_nm 15 sc__law_heavy_book.nd)) (fun _ _ _ _ _ => sts_nil) (fun _ _ _ _ _ => (se_add se_int (se_callS c__law_take hr (sa_cons (se_var 0) (sa_cons se_int sa_nil)))))))) (sa_cons (se_own (sf_lst sa_nil)) (sa_cons (se_own (sf_lst sa_nil)) sa_nil))) (sgs_cons (sg_nm 4 sc__law_heavy_book.nd) (sgs_cons (sg_nm 5 sc__law_heavy_book.nd) (sgs_cons (sg_nm 6 sc__law_heavy_book.nd) sgs_nil)))) (ss_cons (ss_set 7 sc__law_heavy_book.nd (se_callS c__law_mixed hr (sa_cons (se_var 0) (sa_cons (se_var 3) sa_nil)))) (ss_cons (ss_for PassesOwn.never (by rfl) (si_rg1 (by rfl) fr.range (se_var 2)) (sg_nm 8 sc__law_heavy_book.nd) (ss_forget [9, 10, 11, 12, 13, 14] (ss_cons (ss_set 9 sc__law_heavy_book.nd (se_own (sf_lst sa_nil))) (ss_cons (ss_for PassesOwn.never (by rfl) (si_rg1 (by rfl) fr.range (se_callS c__law_some hr (sa_cons (se_var 0) (sa_cons (se_frz (sf_lst (sa_cons se_int (sa_cons se_int (sa_cons se_int (sa_cons se_int sa_nil)))))) sa_nil)))) (sg_nm 10 sc__law_heavy_book.nd) (ss_forget [10, 11] (ss_cons (ss_set 11 sc__law_heavy_book.nd (se_callS c__law_some hr (sa_cons (se_var 0) (sa_cons (se_frz (sf_lst (sa_cons (se_tup (sa_cons se_int (sa_cons se_int sa_nil))) (sa_cons (se_tup (sa_cons se_int (sa_cons se_int sa_nil))) (sa_cons (se_tup (sa_cons se_int (sa_cons se_int sa_nil))) (sa_cons (se_tup (sa_cons se_int (sa_cons se_int sa_nil))) sa_nil)))))) sa_nil)))) (ss_one (ss_exp (se_append (se_var 9) (se_callS c__law_shared_rule hr (sa_cons (se_var 0) (sa_cons (se_var 8) (sa_cons (se_var 4) (sa_cons (se_var 11) (sa_cons (se_callS c__law_some_cells hr (sa_cons (se_var 0) (sa_cons (se_var 2) sa_nil))) sa_nil)))))))))))) (ss_cons (ss_set 11 sc__law_heavy_book.nd (se_callS c__law_some hr (sa_cons (se_var 0) (sa_cons (se_frz (sf_lst (sa_cons (se_tup (sa_cons se_int (sa_cons se_int sa_nil))) (sa_cons (se_tup (sa_cons se_int (sa_cons se_int sa_nil))) sa_nil)))) sa_nil)))) (ss_cons (ss_setLc (own := [("_law_one", 16)]) 12 (by rfl) sc__law_heavy_book.nd (blkOk_by (by kernel_rfl)) (by decide) (si_rg1 (by rfl) fr.range (se_var 2)) (fun _ _ _ _ _ => (sg_nm 16 sc__law_heavy_book.nd)) (fun _ _ _ _ _ => sts_one (SW.st (sw_and (st_notIn (se_var 16) (se_var 3)) (sw_and1 (st_eq (hr.rm.units) (se_callS c__law_take hr (sa_cons (se_var 0) (sa_cons se_int sa_nil))) se_int))))) (fun _ _ _ _ _ => (se_var 16)) k_frz (by rfl)) (ss_cons (ss_if (st_in (se_var 8) (se_var 3)) (ss_cons (ss_set 13 sc__law_heavy_book.nd (se_ix (se_frz (sf_add (se_var 7) (se_frz (sf_sl (se_var 7) so_none (so_some se_int))))) (se_add (se_idx (se_var 7) (se_var 8)) se_int))) (ss_cons (ss_set 11 sc__law_heavy_book.nd (se_callS c__law_some hr (sa_cons (se_var 0) (sa_cons (se_frz (sf_lst (sa_cons (se_tup (sa_cons se_int (sa_cons se_int sa_nil))) (sa_cons (se_tup (sa_cons se_int (sa_cons se_int sa_nil))) (sa_cons (se_tup (sa_cons se_int (sa_cons se_int sa_nil))) (sa_cons (se_tup (sa_cons se_int (sa_cons se_int sa_nil))) sa_nil)))))) sa_nil)))) (ss_one (ss_set 12 sc__law_heavy_book.nd (se_frz (sf_add (se_frz (sf_lst (sa_cons (se_var 13) sa_nil))) (se_frz (sf_of_l (sl_lc (own := [("_law_one", 16)]) (by rfl) sc__law_heavy_book.nd (blkOk_by (by kernel_rfl)) (by decide) (si_lst (se_var 3)) (fun _ _ _ _ _ => (sg_nm 16 sc__law_heavy_book.nd)) (fun _ _ _ _ _ => sts_one (SW.st (sw_and (st_ne (hr.rm.units) (se_var 16) (se_var 13)) (sw_and1 (st_eq (hr.rm.units) (se_callS c__law_take hr (sa_cons (se_var 0) (sa_cons se_int sa_nil))) se_int))))) (fun _ _ _ _ _ => (se_var 16))))))))))) ss_nil) (ss_cons (ss_set 14 sc__law_heavy_book.nd (se_callS c__law_take hr (sa_cons (se_var 0) (sa_cons (se_add (se_callB call_len_seq rn_len (by rfl) fr.len PySem.boot_len (sa_cons (se_var 9) sa_nil)) se_int) sa_nil)))) (ss_cons (ss_exp (se_insert (se_var 9) (se_var 14) (se_callS c__law_shared_rule hr (sa_cons (se_var 0) (sa_cons (se_var 8) (sa_cons (se_var 4) (sa_cons (se_var 11) (sa_cons (se_var 12) sa_nil)))))))) (ss_cons (ss_exp (se_append (se_var 6) (se_var 14))) (ss_one (ss_exp (se_append (se_var 5) (se_callTy call_tuple_of rn_tuple (by rfl) fr.tuple PyProof.Rows.boot_tuple (sa_cons (se_var 9) sa_nil))))))))))))))) (ss_one (ss_ret (se_tup (sa_cons (se_callTy call_tuple_of rn_tuple (by rfl) fr.tuple PyProof.Rows.boot_tuple (sa_cons (se_var 5) sa_nil)) (sa_cons (se_tup (sa_cons (se_callTy call_tuple_of rn_tuple (by rfl) fr.tuple PyProof.Rows.boot_tuple (sa_cons (se_var 6) sa_nil)) (sa_cons (se_callTy call_tuple_of rn_tuple (by rfl) fr.tuple PyProof.Rows.boot_tuple (sa_cons (se_var 3) sa_nil)) (sa_cons (se_callTy call_tuple_of rn_tuple (by rfl) fr.tuple PyProof.Rows.boot_tuple (sa_cons (se_frz (sf_of_l (sl_lc (own := [("_law_cell", 8)]) (by rfl) sc__law_heavy_book.nd (blkOk_by (by kernel_rfl)) (by decide) (si_lst (se_var 3)) (fun _ _ _ _ _ => (sg_nm 8 sc__law_heavy_book.nd)) (fun _ _ _ _ _ => sts_nil) (fun _ _ _ _ _ => (se_tup (sa_cons (se_ix (se_var 4) (se_var 8)) (sa_cons se_int sa_nil))))))) sa_nil)) sa_nil)))) sa_nil))))))))))
theorem sc__law_any_book : FnScope ["_law_bag_here", "_law_most", "_law_many", "_law_book_here", "_law_menu", "_law_cell", "_law_rules", "_law_turn", "_law_k"] ["_law_bag_here", "_law_most"] (defScope (topS 44)) := ⟨rfl, rfl, rfl, by decide +kernel, rfl, by decide +kernel, by decide +kernel⟩
theorem ok__law_any_book (fr : Free mg) (c__law_some : DefS P w K mg base 2 "_law_some" F__law_some) (c__law_some_fraction : DefS P w K mg base 3 "_law_some_fraction" F__law_some_fraction) (c__law_take : DefS P w K mg base 1 "_law_take" F__law_take) (F : Fun K "_law_any_book" "_law_any_book" (topS 44) f fd) (hm : mg "_law_any_book" = some (.ref f)) : DefS P w K mg base 4 "_law_any_book" F__law_any_book :=
  defS (N := ["_law_bag_here", "_law_most", "_law_many", "_law_book_here", "_law_menu", "_law_cell", "_law_rules", "_law_turn", "_law_k"]) (ps := ["_law_bag_here", "_law_most"]) F hm (F.binds fun _ _ _ _ _ _ us hl => match us, hl with | [_, _], _ => rfl) sc__law_any_book fun cdv A outer s H hr =>
    (ss_cons (ss_par2 2 3 (by rfl) sc__law_any_book.nd (sa_cons (se_add se_int (se_callS c__law_take hr (sa_cons (se_var 0) (sa_cons (se_var 1) sa_nil)))) (sa_cons (se_own (sf_lst sa_nil)) sa_nil))) (ss_cons (ss_set 4 sc__law_any_book.nd (se_frz (sf_lst (sa_cons (se_tup (sa_cons se_int (sa_cons se_int sa_nil))) (sa_cons (se_tup (sa_cons se_int (sa_cons se_int sa_nil))) (sa_cons (se_tup (sa_cons se_int (sa_cons se_int sa_nil))) (sa_cons (se_tup (sa_cons (se_neg se_int) (sa_cons se_int sa_nil))) (sa_cons (se_tup (sa_cons se_int (sa_cons se_int sa_nil))) (sa_cons (se_tup (sa_cons se_int (sa_cons se_int sa_nil))) (sa_cons (se_tup (sa_cons (se_neg se_int) (sa_cons se_int sa_nil))) (sa_cons (se_tup (sa_cons se_int (sa_cons se_int sa_nil))) (sa_cons (se_tup (sa_cons (se_neg se_int) (sa_cons se_int sa_nil))) (sa_cons (se_tup (sa_cons se_int (sa_cons se_int sa_nil))) (sa_cons (se_tup (sa_cons se_int (sa_cons se_int sa_nil))) sa_nil)))))))))))))) (ss_cons (ss_for PassesOwn.never (by rfl) (si_rg1 (by rfl) fr.range (se_var 2)) (sg_nm 5 sc__law_any_book.nd) (ss_forget [5, 6, 7] (ss_cons (ss_set 6 sc__law_any_book.nd (se_own (sf_lst sa_nil))) (ss_cons (ss_for PassesOwn.never (by rfl) (si_rg1 (by rfl) fr.range (se_callS c__law_some hr (sa_cons (se_var 0) (sa_cons (se_frz (sf_lst (sa_cons se_int (sa_cons se_int (sa_cons se_int (sa_cons se_int sa_nil)))))) sa_nil)))) (sg_nm 7 sc__law_any_book.nd) (ss_forget [7] (ss_one (ss_exp (se_append (se_var 6) (se_tup (sa_cons (se_callS c__law_some_fraction hr (sa_cons (se_var 0) sa_nil)) (sa_cons (se_callTy call_tuple_of rn_tuple (by rfl) fr.tuple PyProof.Rows.boot_tuple (sa_cons (se_frz (sf_of_l (sl_lc (own := [("_law_k", 8)]) (by rfl) sc__law_any_book.nd (blkOk_by (by kernel_rfl)) (by decide) (si_rg1 (by rfl) fr.range (se_var 2)) (fun _ _ _ _ _ => (sg_nm 8 sc__law_any_book.nd)) (fun _ _ _ _ _ => sts_nil) (fun _ _ _ _ _ => (se_callS c__law_some hr (sa_cons (se_var 0) (sa_cons (se_var 4) sa_nil))))))) sa_nil)) sa_nil)))))))) (ss_one (ss_exp (se_append (se_var 3) (se_callTy call_tuple_of rn_tuple (by rfl) fr.tuple PyProof.Rows.boot_tuple (sa_cons (se_var 6) sa_nil))))))))) (ss_one (ss_ret (se_callTy call_tuple_of rn_tuple (by rfl) fr.tuple PyProof.Rows.boot_tuple (sa_cons (se_var 3) sa_nil)))))))
theorem sc__law_book : FnScope ["_law_bag_here", "_law_most", "_law_way"] ["_law_bag_here", "_law_most"] (defScope (topS 45)) := ⟨rfl, rfl, rfl, by decide +kernel, rfl, by decide +kernel, by decide +kernel⟩
theorem ok__law_book (fr : Free mg) (c__law_any_book : DefS P w K mg base 4 "_law_any_book" F__law_any_book) (c__law_heavy_book : DefS P w K mg base 5 "_law_heavy_book" F__law_heavy_book) (c__law_light_book : DefS P w K mg base 5 "_law_light_book" F__law_light_book) (c__law_take : DefS P w K mg base 1 "_law_take" F__law_take) (F : Fun K "_law_book" "_law_book" (topS 45) f fd) (hm : mg "_law_book" = some (.ref f)) : DefS P w K mg base 6 "_law_book" F__law_book :=
  defS (N := ["_law_bag_here", "_law_most", "_law_way"]) (ps := ["_law_bag_here", "_law_most"]) F hm (F.binds fun _ _ _ _ _ _ us hl => match us, hl with | [_, _], _ => rfl) sc__law_book fun cdv A outer s H hr =>
    (ss_cons (ss_set 2 sc__law_book.nd (se_callS c__law_take hr (sa_cons (se_var 0) (sa_cons se_int sa_nil)))) (ss_cons (ss_if (st_lt (se_var 2) se_int) (ss_one (ss_ret (se_ix (se_callS c__law_light_book hr (sa_cons (se_var 0) (sa_cons (se_var 1) sa_nil))) se_int))) ss_nil) (ss_one (ss_ret (se_if (st_lt (se_var 2) se_int) (se_ix (se_callS c__law_heavy_book hr (sa_cons (se_var 0) (sa_cons (se_var 1) sa_nil))) se_int) (se_callS c__law_any_book hr (sa_cons (se_var 0) (sa_cons (se_var 1) sa_nil))))))))
theorem sc__law_even_book : FnScope ["_law_bag_here", "_law_most", "_law_many", "_law_scales_here", "_law_ties", "_law_top", "_law_one", "_law_other", "_law_book_here", "_law_cell", "_law_row", "_law_k"] ["_law_bag_here", "_law_most"] (defScope (topS 46)) := ⟨rfl, rfl, rfl, by decide +kernel, rfl, by decide +kernel, by decide +kernel⟩
theorem ok__law_even_book (fr : Free mg) (c__law_f : DefP P w K mg base 2 "_law_f" F__law_f) (c__law_some : DefS P w K mg base 2 "_law_some" F__law_some) (c__law_some_fraction : DefS P w K mg base 3 "_law_some_fraction" F__law_some_fraction) (c__law_take : DefS P w K mg base 1 "_law_take" F__law_take) (F : Fun K "_law_even_book" "_law_even_book" (topS 46) f fd) (hm : mg "_law_even_book" = some (.ref f)) : DefS P w K mg base 4 "_law_even_book" F__law_even_book :=
  defS (N := ["_law_bag_here", "_law_most", "_law_many", "_law_scales_here", "_law_ties", "_law_top", "_law_one", "_law_other", "_law_book_here", "_law_cell", "_law_row", "_law_k"]) (ps := ["_law_bag_here", "_law_most"]) F hm (F.binds fun _ _ _ _ _ _ us hl => match us, hl with | [_, _], _ => rfl) sc__law_even_book fun cdv A outer s H hr =>
    (ss_cons (ss_set 2 sc__law_even_book.nd (se_add se_int (se_callS c__law_take hr (sa_cons (se_var 0) (sa_cons (se_var 1) sa_nil))))) (ss_cons (ss_parT (by rfl) (sa_cons (se_frz (sf_of_l (sl_lc (own := [("_law_k", 11)]) (by rfl) sc__law_even_book.nd (blkOk_by (by kernel_rfl)) (by decide) (si_rg1 (by rfl) fr.range (se_var 2)) (fun _ _ _ _ _ => (sg_nm 11 sc__law_even_book.nd)) (fun _ _ _ _ _ => sts_nil) (fun _ _ _ _ _ => (se_add se_int (se_callS c__law_take hr (sa_cons (se_var 0) (sa_cons se_int sa_nil)))))))) (sa_cons se_dicT sa_nil)) (sgs_cons (sg_nm 3 sc__law_even_book.nd) (sgs_cons (sg_nm 4 sc__law_even_book.nd) sgs_nil))) (ss_cons (ss_set 5 sc__law_even_book.nd (se_callS c__law_some hr (sa_cons (se_var 0) (sa_cons (se_frz (sf_lst (sa_cons se_int (sa_cons se_int (sa_cons se_int sa_nil))))) sa_nil)))) (ss_cons (ss_for PassesOwn.never (by rfl) (si_rg1 (by rfl) fr.range (se_var 2)) (sg_nm 6 sc__law_even_book.nd) (ss_forget [7] (ss_one (ss_for PassesOwn.never (by rfl) (si_rg1 (by rfl) fr.range (se_var 6)) (sg_nm 7 sc__law_even_book.nd) (ss_forget [7] (ss_cons (ss_tput hr (se_var 4) (sa_cons (se_var 6) (sa_cons (se_var 7) sa_nil)) (se_callS c__law_some hr (sa_cons (se_var 0) (sa_cons (se_frz (sf_lst (sa_cons se_int (sa_cons se_int (sa_cons (se_neg se_int) (sa_cons se_int (sa_cons (se_neg se_int) (sa_cons se_int sa_nil)))))))) sa_nil)))) (ss_one (ss_tput hr (se_var 4) (sa_cons (se_var 7) (sa_cons (se_var 6) sa_nil)) (se_tget hr (se_var 4) (sa_cons (se_var 6) (sa_cons (se_var 7) sa_nil))))))))))) (ss_cons (ss_set 8 sc__law_even_book.nd (se_own (sf_lst sa_nil))) (ss_cons (ss_for PassesOwn.never (by rfl) (si_rg1 (by rfl) fr.range (se_var 2)) (sg_nm 9 sc__law_even_book.nd) (ss_forget [9, 10] (ss_cons (ss_setLc (own := [("_law_one", 6)]) 10 (by rfl) sc__law_even_book.nd (blkOk_by (by kernel_rfl)) (by decide) (si_rg1 (by rfl) fr.range (se_var 2)) (fun _ _ _ _ _ => (sg_nm 6 sc__law_even_book.nd)) (fun _ _ _ _ _ => sts_nil) (fun _ _ _ _ _ => (se_if (st_eq (hr.rm.units) (se_var 6) (se_var 9)) (se_tup (sa_cons se_int (sa_cons se_int sa_nil))) (se_callP c__law_f hr (sa_cons (se_tget hr (se_var 4) (sa_cons (se_var 9) (sa_cons (se_var 6) sa_nil))) (sa_cons (se_mul (se_var 5) (se_ix (se_var 3) (se_var 9))) sa_nil))))) k_frz (by rfl)) (ss_one (ss_exp (se_append (se_var 8) (se_tup (sa_cons (se_tup (sa_cons (se_callS c__law_some_fraction hr (sa_cons (se_var 0) sa_nil)) (sa_cons (se_callTy call_tuple_of rn_tuple (by rfl) fr.tuple PyProof.Rows.boot_tuple (sa_cons (se_var 10) sa_nil)) sa_nil))) sa_nil)))))))) (ss_one (ss_ret (se_tup (sa_cons (se_callTy call_tuple_of rn_tuple (by rfl) fr.tuple PyProof.Rows.boot_tuple (sa_cons (se_var 8) sa_nil)) (sa_cons (se_callTy call_tuple_of rn_tuple (by rfl) fr.tuple PyProof.Rows.boot_tuple (sa_cons (se_var 3) sa_nil)) sa_nil)))))))))))
theorem sc__law_over : FnScope ["_law_one", "_law_other"] ["_law_one", "_law_other"] (defScope (topS 47)) := ⟨rfl, rfl, rfl, by decide +kernel, rfl, by decide +kernel, by decide +kernel⟩
theorem ok__law_over (fr : Free mg) (c__law_f : DefP P w K mg base 2 "_law_f" F__law_f) (F : Fun K "_law_over" "_law_over" (topS 47) f fd) (hm : mg "_law_over" = some (.ref f)) : DefP P w K mg base 3 "_law_over" F__law_over :=
  defP (N := ["_law_one", "_law_other"]) (ps := ["_law_one", "_law_other"]) F hm (F.binds fun _ _ _ _ _ _ us hl => match us, hl with | [_, _], _ => rfl) sc__law_over fun cdv A outer s H hr =>
    (ss_one (ss_ret (se_callP c__law_f hr (sa_cons (se_mul (se_ix (se_var 0) se_int) (se_ix (se_var 1) se_int)) (sa_cons (se_mul (se_ix (se_var 0) se_int) (se_ix (se_var 1) se_int)) sa_nil)))))
theorem sc__law_scales : FnScope ["_law_book_here", "_law_rows", "_law_scales_here", "_law_cell", "_law_line", "_law_here", "_law_other", "_law_due", "_law_rules"] ["_law_book_here"] (defScope (topS 48)) := ⟨rfl, rfl, rfl, by decide +kernel, rfl, by decide +kernel, by decide +kernel⟩
theorem ok__law_scales (fr : Free mg) (c__law_by : DefP P w K mg base 3 "_law_by" F__law_by) (c__law_over : DefP P w K mg base 3 "_law_over" F__law_over) (F : Fun K "_law_scales" "_law_scales" (topS 48) f fd) (hm : mg "_law_scales" = some (.ref f)) : DefP P w K mg base 4 "_law_scales" F__law_scales :=
  defP (N := ["_law_book_here", "_law_rows", "_law_scales_here", "_law_cell", "_law_line", "_law_here", "_law_other", "_law_due", "_law_rules"]) (ps := ["_law_book_here"]) F hm (F.binds fun _ _ _ _ _ _ us hl => match us, hl with | [_], _ => rfl) sc__law_scales fun cdv A outer s H hr =>
    (ss_cons (ss_if (st_ne (hr.rm.units) (se_frz (sf_of_l (sl_lc (own := [("_law_cell", 3), ("_law_rules", 8)]) (by rfl) sc__law_scales.nd (blkOk_by (by kernel_rfl)) (by decide) (si_en (by rfl) fr.enumerate (se_var 0)) (fun _ _ _ _ _ => (sg_tp (by rfl) (sgs_cons (sg_nm 3 sc__law_scales.nd) (sgs_cons (sg_nm 8 sc__law_scales.nd) sgs_nil)))) (fun _ _ _ _ _ => sts_one (SW.st (sw_or (st_ne (hr.rm.units) (se_callB call_len_seq rn_len (by rfl) fr.len PySem.boot_len (sa_cons (se_var 8) sa_nil)) se_int) (sw_or1 (st_ne (hr.rm.units) (se_ix (se_ix (se_ix (se_ix (se_var 8) se_int) se_int) (se_var 3)) se_int) se_int))))) (fun _ _ _ _ _ => (se_var 3))))) (se_frz (sf_lst sa_nil))) (ss_one (ss_ret se_non)) ss_nil) (ss_cons (ss_parT (by rfl) (sa_cons (se_frz (sf_of_l (sl_lc (own := [("_law_rules", 8)]) (by rfl) sc__law_scales.nd (blkOk_by (by kernel_rfl)) (by decide) (si_tp (se_var 0)) (fun _ _ _ _ _ => (sg_nm 8 sc__law_scales.nd)) (fun _ _ _ _ _ => sts_nil) (fun _ _ _ _ _ => (se_ix (se_ix (se_var 8) se_int) se_int))))) (sa_cons se_dicK sa_nil)) (sgs_cons (sg_nm 1 sc__law_scales.nd) (sgs_cons (sg_nm 2 sc__law_scales.nd) sgs_nil))) (ss_cons (ss_for PassesOwn.never (by rfl) (si_rg1 (by rfl) fr.range (se_callB call_len_seq rn_len (by rfl) fr.len PySem.boot_len (sa_cons (se_var 0) sa_nil))) (sg_nm 3 sc__law_scales.nd) (ss_forget [4, 5, 6, 7] (ss_cons (ss_set 4 sc__law_scales.nd (se_if (st_dnotin hr (se_var 3) (se_var 2)) (se_own (sf_lst (sa_cons (se_var 3) sa_nil))) (se_own (sf_lst sa_nil)))) (ss_cons (ss_exp (se_setd (se_var 2) (se_var 3) (se_tup (sa_cons se_int (sa_cons se_int sa_nil))))) (ss_one (ss_while PassesOwn.never (st_ne (hr.rm.units) (se_var 4) (se_frz (sf_lst sa_nil))) (ss_forget [5, 6, 7] (ss_cons (ss_set 5 sc__law_scales.nd (se_pop (se_var 4))) (ss_one (ss_for PassesOwn.never (by rfl) (si_rg1 (by rfl) fr.range (se_callB call_len_seq rn_len (by rfl) fr.len PySem.boot_len (sa_cons (se_var 0) sa_nil))) (sg_nm 6 sc__law_scales.nd) (ss_forget [6, 7] (ss_cons (ss_if (SW.st (sw_and (st_eq (hr.rm.units) (se_ix (se_ix (se_ix (se_var 1) (se_var 5)) (se_var 6)) se_int) se_int) (sw_and1 (st_eq (hr.rm.units) (se_ix (se_ix (se_ix (se_var 1) (se_var 6)) (se_var 5)) se_int) se_int)))) (ss_one ss_cnt) ss_nil) (ss_cons (ss_if (st_le (se_mul (se_ix (se_ix (se_ix (se_var 1) (se_var 5)) (se_var 6)) se_int) (se_ix (se_ix (se_ix (se_var 1) (se_var 6)) (se_var 5)) se_int)) se_int) (ss_one (ss_ret se_non)) ss_nil) (ss_cons (ss_set 7 sc__law_scales.nd (se_callP c__law_over hr (sa_cons (se_callP c__law_by hr (sa_cons (se_ix (se_ix (se_var 1) (se_var 5)) (se_var 6)) (sa_cons (se_dget hr (se_var 2) (se_var 5)) sa_nil))) (sa_cons (se_ix (se_ix (se_var 1) (se_var 6)) (se_var 5)) sa_nil)))) (ss_one (ss_if (st_dnotin hr (se_var 6) (se_var 2)) (ss_cons (ss_dput hr (se_var 2) (se_var 6) (se_var 7)) (ss_one (ss_exp (se_append (se_var 4) (se_var 6))))) (ss_one (ss_if (st_ne (hr.rm.units) (se_dget hr (se_var 2) (se_var 6)) (se_var 7)) (ss_one (ss_ret se_non)) ss_nil)))))))))))))))))) (ss_one (ss_ret (se_callTy call_tuple_of rn_tuple (by rfl) fr.tuple PyProof.Rows.boot_tuple (sa_cons (se_frz (sf_of_l (sl_lc (own := [("_law_cell", 3)]) (by rfl) sc__law_scales.nd (blkOk_by (by kernel_rfl)) (by decide) (si_rg1 (by rfl) fr.range (se_callB call_len_seq rn_len (by rfl) fr.len PySem.boot_len (sa_cons (se_var 0) sa_nil))) (fun _ _ _ _ _ => (sg_nm 3 sc__law_scales.nd)) (fun _ _ _ _ _ => sts_nil) (fun _ _ _ _ _ => (se_dget hr (se_var 2) (se_var 3)))))) sa_nil)))))))
theorem sc__law_energy : FnScope ["_law_book_here", "_law_scales_here", "_law_values", "_law_found", "_law_cell", "_law_rules", "_law_read"] ["_law_book_here", "_law_scales_here", "_law_values"] (defScope (topS 49)) := ⟨rfl, rfl, rfl, by decide +kernel, rfl, by decide +kernel, by decide +kernel⟩
theorem ok__law_energy (fr : Free mg) (c__law_by : DefP P w K mg base 3 "_law_by" F__law_by) (c__law_minus : DefP P w K mg base 3 "_law_minus" F__law_minus) (c__law_total : DefP P w K mg base 4 "_law_total" F__law_total) (c__law_value : DefP P w K mg base 5 "_law_value" F__law_value) (F : Fun K "_law_energy" "_law_energy" (topS 49) f fd) (hm : mg "_law_energy" = some (.ref f)) : DefP P w K mg base 6 "_law_energy" F__law_energy :=
  defP (N := ["_law_book_here", "_law_scales_here", "_law_values", "_law_found", "_law_cell", "_law_rules", "_law_read"]) (ps := ["_law_book_here", "_law_scales_here", "_law_values"]) F hm (F.binds fun _ _ _ _ _ _ us hl => match us, hl with | [_, _, _], _ => rfl) sc__law_energy fun cdv A outer s H hr =>
    (ss_cons (ss_set 3 sc__law_energy.nd (se_own (sf_lst sa_nil))) (ss_cons (ss_for PassesOwn.never (by rfl) (si_en (by rfl) fr.enumerate (se_var 0)) (sg_tp (by rfl) (sgs_cons (sg_nm 4 sc__law_energy.nd) (sgs_cons (sg_nm 5 sc__law_energy.nd) sgs_nil))) (ss_forget [4, 5, 6] (ss_cons (ss_set 6 sc__law_energy.nd (se_callP c__law_value hr (sa_cons (se_tup (sa_cons (se_tup (sa_cons se_int (sa_cons se_int sa_nil))) (sa_cons (se_ix (se_ix (se_var 5) se_int) se_int) sa_nil))) (sa_cons (se_var 2) sa_nil)))) (ss_one (ss_exp (se_append (se_var 3) (se_callP c__law_by hr (sa_cons (se_callP c__law_by hr (sa_cons (se_ix (se_var 1) (se_var 4)) (sa_cons (se_ix (se_var 2) (se_var 4)) sa_nil))) (sa_cons (se_callP c__law_minus hr (sa_cons (se_ix (se_var 2) (se_var 4)) (sa_cons (se_var 6) sa_nil))) sa_nil))))))))) (ss_one (ss_ret (se_callP c__law_total hr (sa_cons (se_var 3) sa_nil))))))
theorem sc__law_few_values : FnScope ["_law_bag_here", "_law_many", "_law_k"] ["_law_bag_here", "_law_many"] (defScope (topS 50)) := ⟨rfl, rfl, rfl, by decide +kernel, rfl, by decide +kernel, by decide +kernel⟩
theorem ok__law_few_values (fr : Free mg) (c__law_some : DefS P w K mg base 2 "_law_some" F__law_some) (F : Fun K "_law_few_values" "_law_few_values" (topS 50) f fd) (hm : mg "_law_few_values" = some (.ref f)) : DefS P w K mg base 3 "_law_few_values" F__law_few_values :=
  defS (N := ["_law_bag_here", "_law_many", "_law_k"]) (ps := ["_law_bag_here", "_law_many"]) F hm (F.binds fun _ _ _ _ _ _ us hl => match us, hl with | [_, _], _ => rfl) sc__law_few_values fun cdv A outer s H hr =>
    (ss_one (ss_ret (se_callTy call_tuple_of rn_tuple (by rfl) fr.tuple PyProof.Rows.boot_tuple (sa_cons (se_frz (sf_of_l (sl_lc (own := [("_law_k", 2)]) (by rfl) sc__law_few_values.nd (blkOk_by (by kernel_rfl)) (by decide) (si_rg1 (by rfl) fr.range (se_var 1)) (fun _ _ _ _ _ => (sg_nm 2 sc__law_few_values.nd)) (fun _ _ _ _ _ => sts_nil) (fun _ _ _ _ _ => (se_callS c__law_some hr (sa_cons (se_var 0) (sa_cons (se_frz (sf_lst (sa_cons (se_tup (sa_cons se_int (sa_cons se_int sa_nil))) (sa_cons (se_tup (sa_cons se_int (sa_cons se_int sa_nil))) (sa_cons (se_tup (sa_cons (se_neg se_int) (sa_cons se_int sa_nil))) (sa_cons (se_tup (sa_cons se_int (sa_cons se_int sa_nil))) (sa_cons (se_tup (sa_cons se_int (sa_cons se_int sa_nil))) (sa_cons (se_tup (sa_cons (se_neg se_int) (sa_cons se_int sa_nil))) sa_nil)))))))) sa_nil))))))) sa_nil))))
theorem sc__law_is_small : FnScope ["_law_rows", "_law_row", "_law_one"] ["_law_rows"] (defScope (topS 52)) := ⟨rfl, rfl, rfl, by decide +kernel, rfl, by decide +kernel, by decide +kernel⟩
theorem ok__law_is_small (fr : Free mg) (F : Fun K "_law_is_small" "_law_is_small" (topS 52) f fd) (hm : mg "_law_is_small" = some (.ref f)) : DefP P w K mg base 1 "_law_is_small" F__law_is_small :=
  defP (N := ["_law_rows", "_law_row", "_law_one"]) (ps := ["_law_rows"]) F hm (F.binds fun _ _ _ _ _ _ us hl => match us, hl with | [_], _ => rfl) sc__law_is_small fun cdv A outer s H hr =>
    (ss_one (ss_ret (se_eq (hr.rm.units) (se_frz (sf_of_l (sl_lc (own := [("_law_row", 1)]) (by rfl) sc__law_is_small.nd (blkOk_by (by kernel_rfl)) (by decide) (si_lst (se_var 0)) (fun _ _ _ _ _ => (sg_nm 1 sc__law_is_small.nd)) (fun _ _ _ _ _ => sts_one (st_ne (hr.rm.units) (se_frz (sf_of_l (sl_lc (own := [("_law_one", 2)]) (by rfl) sc__law_is_small.nd (blkOk_by (by kernel_rfl)) (by decide) (si_tp (se_var 1)) (fun _ _ _ _ _ => (sg_nm 2 sc__law_is_small.nd)) (fun _ _ _ _ _ => sts_one (st_gt (se_ix (se_var 2) se_int) se_int)) (fun _ _ _ _ _ => (se_var 2))))) (se_frz (sf_lst sa_nil)))) (fun _ _ _ _ _ => se_int)))) (se_frz (sf_lst sa_nil)))))
theorem sc__law_spoilt : FnScope ["_law_bag_here", "_law_book_here", "_law_cell", "_law_way", "_law_told", "_law_factors", "_law_at", "_law_row", "_law_rules"] ["_law_bag_here", "_law_book_here"] (defScope (topS 53)) := ⟨rfl, rfl, rfl, by decide +kernel, rfl, by decide +kernel, by decide +kernel⟩
theorem ok__law_spoilt (fr : Free mg) (c__law_by : DefP P w K mg base 3 "_law_by" F__law_by) (c__law_some : DefS P w K mg base 2 "_law_some" F__law_some) (c__law_some_fraction : DefS P w K mg base 3 "_law_some_fraction" F__law_some_fraction) (c__law_take : DefS P w K mg base 1 "_law_take" F__law_take) (F : Fun K "_law_spoilt" "_law_spoilt" (topS 53) f fd) (hm : mg "_law_spoilt" = some (.ref f)) : DefS P w K mg base 4 "_law_spoilt" F__law_spoilt :=
  defS (N := ["_law_bag_here", "_law_book_here", "_law_cell", "_law_way", "_law_told", "_law_factors", "_law_at", "_law_row", "_law_rules"]) (ps := ["_law_bag_here", "_law_book_here"]) F hm (F.binds fun _ _ _ _ _ _ us hl => match us, hl with | [_, _], _ => rfl) sc__law_spoilt fun cdv A outer s H hr =>
    (ss_cons (ss_par2 2 3 (by rfl) sc__law_spoilt.nd (sa_cons (se_callS c__law_take hr (sa_cons (se_var 0) (sa_cons (se_callB call_len_seq rn_len (by rfl) fr.len PySem.boot_len (sa_cons (se_var 1) sa_nil)) sa_nil))) (sa_cons (se_callS c__law_take hr (sa_cons (se_var 0) (sa_cons se_int sa_nil))) sa_nil))) (ss_cons (ss_asg (se_ix (se_ix (se_var 1) (se_var 2)) se_int) (sg_tp (by rfl) (sgs_cons (sg_nm 4 sc__law_spoilt.nd) (sgs_cons (sg_nm 5 sc__law_spoilt.nd) sgs_nil)))) (ss_cons (ss_set 6 sc__law_spoilt.nd (se_callS c__law_take hr (sa_cons (se_var 0) (sa_cons (se_callB call_len_seq rn_len (by rfl) fr.len PySem.boot_len (sa_cons (se_var 1) sa_nil)) sa_nil)))) (ss_cons (ss_set 7 sc__law_spoilt.nd (se_add (se_add (se_slT (se_var 5) so_none (so_some (se_var 6))) (se_tup (sa_cons (se_callS c__law_some hr (sa_cons (se_var 0) (sa_cons (se_frz (sf_lst (sa_cons (se_tup (sa_cons se_int (sa_cons se_int sa_nil))) (sa_cons (se_tup (sa_cons (se_neg se_int) (sa_cons se_int sa_nil))) (sa_cons (se_tup (sa_cons se_int (sa_cons se_int sa_nil))) (sa_cons (se_callP c__law_by hr (sa_cons (se_ix (se_var 5) (se_var 6)) (sa_cons (se_tup (sa_cons (se_neg se_int) (sa_cons se_int sa_nil))) sa_nil))) sa_nil)))))) sa_nil))) sa_nil))) (se_slT (se_var 5) (so_some (se_add (se_var 6) se_int)) so_none))) (ss_cons (ss_set 8 sc__law_spoilt.nd (se_tup (sa_cons (se_tup (sa_cons (se_var 4) (sa_cons (se_var 7) sa_nil))) sa_nil))) (ss_cons (ss_if (st_eq (hr.rm.units) (se_var 3) se_int) (ss_one (ss_set 8 sc__law_spoilt.nd (se_add (se_ix (se_var 1) (se_var 2)) (se_tup (sa_cons (se_ix (se_ix (se_var 1) (se_var 2)) se_int) sa_nil))))) ss_nil) (ss_cons (ss_if (st_eq (hr.rm.units) (se_var 3) se_int) (ss_one (ss_set 8 sc__law_spoilt.nd (se_tup (sa_cons (se_tup (sa_cons (se_callS c__law_some_fraction hr (sa_cons (se_var 0) sa_nil)) (sa_cons (se_var 5) sa_nil))) sa_nil)))) ss_nil) (ss_one (ss_ret (se_add (se_add (se_slT (se_var 1) so_none (so_some (se_var 2))) (se_tup (sa_cons (se_var 8) sa_nil))) (se_slT (se_var 1) (so_some (se_add (se_var 2) se_int)) so_none)))))))))))
theorem sc__law_is_energy_right : FnScope ["_law_bag_here", "_law_book_here", "_law_scales_here", "_law_values", "_law_cell", "_law_before", "_law_late", "_law_after", "_law_other"] ["_law_bag_here", "_law_book_here", "_law_scales_here"] (defScope (topS 54)) := ⟨rfl, rfl, rfl, by decide +kernel, rfl, by decide +kernel, by decide +kernel⟩
theorem ok__law_is_energy_right (fr : Free mg) (c__law_alike : DefP P w K mg base 1 "_law_alike" F__law_alike) (c__law_below : DefP P w K mg base 1 "_law_below" F__law_below) (c__law_energy : DefP P w K mg base 6 "_law_energy" F__law_energy) (c__law_few_values : DefS P w K mg base 3 "_law_few_values" F__law_few_values) (c__law_is_small : DefP P w K mg base 1 "_law_is_small" F__law_is_small) (c__law_mixed : DefS P w K mg base 2 "_law_mixed" F__law_mixed) (c__law_plus : DefP P w K mg base 3 "_law_plus" F__law_plus) (c__law_some : DefS P w K mg base 2 "_law_some" F__law_some) (c__law_value : DefP P w K mg base 5 "_law_value" F__law_value) (c_energy : DefX P w K mg base 7 "energy" F_energy) (F : Fun K "_law_is_energy_right" "_law_is_energy_right" (topS 54) f fd) (hm : mg "_law_is_energy_right" = some (.ref f)) : DefS P w K mg base 8 "_law_is_energy_right" F__law_is_energy_right :=
  defS (N := ["_law_bag_here", "_law_book_here", "_law_scales_here", "_law_values", "_law_cell", "_law_before", "_law_late", "_law_after", "_law_other"]) (ps := ["_law_bag_here", "_law_book_here", "_law_scales_here"]) F hm (F.binds fun _ _ _ _ _ _ us hl => match us, hl with | [_, _, _], _ => rfl) sc__law_is_energy_right fun cdv A outer s H hr =>
    (ss_cons (ss_set 3 sc__law_is_energy_right.nd (se_callS c__law_few_values hr (sa_cons (se_var 0) (sa_cons (se_callB call_len_seq rn_len (by rfl) fr.len PySem.boot_len (sa_cons (se_var 1) sa_nil)) sa_nil)))) (ss_cons (ss_for PassesOwn.never (by rfl) (si_lst (se_callS c__law_mixed hr (sa_cons (se_var 0) (sa_cons (se_frz (sf_listR (by rfl) (by rfl) fr.list (by rfl) fr.range (se_callB call_len_seq rn_len (by rfl) fr.len PySem.boot_len (sa_cons (se_var 1) sa_nil)))) sa_nil)))) (sg_nm 4 sc__law_is_energy_right.nd) (ss_forget [4, 5, 6, 7, 8] (ss_cons (ss_set 5 sc__law_is_energy_right.nd (se_callX c_energy hr tkW0 (sa_cons (se_var 1) (sa_cons (se_var 3) sa_nil)))) (ss_cons (ss_if (st_not (st_val (se_callP c__law_alike hr (sa_cons (se_var 5) (sa_cons (se_callP c__law_energy hr (sa_cons (se_var 1) (sa_cons (se_var 2) (sa_cons (se_var 3) sa_nil)))) sa_nil))))) (ss_one (ss_ret se_bl)) ss_nil) (ss_cons (ss_set 6 sc__law_is_energy_right.nd (se_add (se_add (se_slT (se_var 3) so_none (so_some (se_var 4))) (se_tup (sa_cons (se_callP c__law_value hr (sa_cons (se_tup (sa_cons (se_tup (sa_cons se_int (sa_cons se_int sa_nil))) (sa_cons (se_ix (se_ix (se_ix (se_var 1) (se_var 4)) se_int) se_int) sa_nil))) (sa_cons (se_var 3) sa_nil))) sa_nil))) (se_slT (se_var 3) (so_some (se_add (se_var 4) se_int)) so_none))) (ss_cons (ss_if (st_not (st_tru (se_callP c__law_is_small hr (sa_cons (se_frz (sf_lst (sa_cons (se_var 6) sa_nil))) sa_nil)))) (ss_one (ss_ret se_bl)) ss_nil) (ss_cons (ss_set 7 sc__law_is_energy_right.nd (se_callX c_energy hr tkW0 (sa_cons (se_var 1) (sa_cons (se_var 6) sa_nil)))) (ss_cons (ss_if (st_tru (se_callP c__law_below hr (sa_cons (se_var 5) (sa_cons (se_var 7) sa_nil)))) (ss_one (ss_ret se_bl)) ss_nil) (ss_cons (ss_set 8 sc__law_is_energy_right.nd (se_add (se_add (se_slT (se_var 6) so_none (so_some (se_var 4))) (se_tup (sa_cons (se_callP c__law_plus hr (sa_cons (se_ix (se_var 6) (se_var 4)) (sa_cons (se_callS c__law_some hr (sa_cons (se_var 0) (sa_cons (se_frz (sf_lst (sa_cons (se_tup (sa_cons se_int (sa_cons se_int sa_nil))) (sa_cons (se_tup (sa_cons (se_neg se_int) (sa_cons se_int sa_nil))) (sa_cons (se_tup (sa_cons se_int (sa_cons se_int sa_nil))) sa_nil))))) sa_nil))) sa_nil))) sa_nil))) (se_slT (se_var 6) (so_some (se_add (se_var 4) se_int)) so_none))) (ss_cons (ss_if (SW.st (sw_and (st_tru (se_callP c__law_is_small hr (sa_cons (se_frz (sf_lst (sa_cons (se_var 8) sa_nil))) sa_nil))) (sw_and1 (st_not (st_tru (se_callP c__law_below hr (sa_cons (se_var 7) (sa_cons (se_callX c_energy hr tkW0 (sa_cons (se_var 1) (sa_cons (se_var 8) sa_nil))) sa_nil)))))))) (ss_one (ss_ret se_bl)) ss_nil) (ss_cons (ss_set 3 sc__law_is_energy_right.nd (se_var 6)) (ss_one (ss_if (st_not (st_tru (se_callP c__law_is_small hr (sa_cons (se_frz (sf_lst (sa_cons (se_var 3) sa_nil))) sa_nil)))) (ss_one (ss_ret se_bl)) ss_nil))))))))))))) (ss_one (ss_ret se_bl))))
theorem sc_law : FnScope ["_law_script", "_law_bag_here", "_law_turn", "_law_book_here", "_law_scales_here", "_law_shown", "_law_told"] ["_law_script"] (defScope (topS 55)) := ⟨rfl, rfl, rfl, by decide +kernel, rfl, by decide +kernel, by decide +kernel⟩
end
end P55

set_option Elab.async false
set_option linter.all false
set_option maxRecDepth 100000
set_option maxHeartbeats 4000000
namespace P55
open PySem PySem.Spec PyProof.Rows L2 Zd
section
variable {P : Program} {w : World} {K : PySem.W.Frag} {mg : Str → Option Value} {base : Heap} {f : Addr} {fd : FuncData}
theorem fk_law (fr : Free mg) (c__law_alike : DefP P w K mg base 1 "_law_alike" F__law_alike) (c__law_bag : DefS P w K mg base 1 "_law_bag" F__law_bag) (c__law_book : DefS P w K mg base 6 "_law_book" F__law_book) (c__law_even_book : DefS P w K mg base 4 "_law_even_book" F__law_even_book) (c__law_is_energy_right : DefS P w K mg base 8 "_law_is_energy_right" F__law_is_energy_right) (c__law_scales : DefP P w K mg base 4 "_law_scales" F__law_scales) (c__law_spoilt : DefS P w K mg base 4 "_law_spoilt" F__law_spoilt) (c_energy : DefX P w K mg base 7 "energy" F_energy) (c_low_values : DefX P w K mg base 7 "low_values" F_low_values) (c_scales_of : DefP P w K mg base 4 "scales_of" F_scales_of) (c_squares_of : DefX P w K mg base 7 "squares_of" F_squares_of) (t__law_told_by : ToldD K mg "_law_told_by" (fun c => if c = "NotEven" then some "not even" else none) "told") {cL T : Addr} (TB : LamX.TabB base mg cL T) {oc kV doc pm ct : Value} {od an : Option Addr} {osl : Array (Option Value)} (lk : K.lookup f = some ⟨oc, od, .func (PySem.W.fnOf "law" "law" (defArgs (topS 55)) (defBody (topS 55)) (defScope (topS 55)) .none kV doc pm an (.ref cL) ct), osl⟩) (hcd : PySem.W.codeIn K (.ref cL) "law" = true) : FK P w K mg base 10 f (PySem.W.fnOf "law" "law" (defArgs (topS 55)) (defBody (topS 55)) (defScope (topS 55)) .none kV doc pm an (.ref cL) ct) ["_law_script"] (spS K 1 (F_law T)) :=
  fk_LC (N := ["_law_script", "_law_bag_here", "_law_turn", "_law_book_here", "_law_scales_here", "_law_shown", "_law_told"]) (ps := ["_law_script"]) lk hcd sc_law fun A outer s H hr =>
    (ss_cons (ss_set 1 sc_law.nd (se_callS c__law_bag hr (sa_cons (se_var 0) sa_nil))) (ss_cons (ss_for PassesOwn.never (by rfl) (si_rg1 (by rfl) fr.range se_int) (sg_nm 2 sc_law.nd) (ss_forget [2, 3, 4, 5, 6] (ss_cons (ss_set 3 sc_law.nd (se_ix (se_callS c__law_even_book hr (sa_cons (se_var 1) (sa_cons se_int sa_nil))) se_int)) (ss_cons (ss_if (st_gt (se_var 2) se_int) (ss_one (ss_set 3 sc_law.nd (se_if (st_lt (se_var 2) se_int) (se_callS c__law_spoilt hr (sa_cons (se_var 1) (sa_cons (se_var 3) sa_nil))) (se_callS c__law_book hr (sa_cons (se_var 1) (sa_cons se_int sa_nil)))))) ss_nil) (ss_cons (ss_par2 4 5 (by rfl) sc_law.nd (sa_cons (se_callP c__law_scales hr (sa_cons (se_var 3) sa_nil)) (sa_cons (se_callB (call_repr hr) rn_repr (by rfl) fr.repr PyProof.Rows.boot_repr (sa_cons (se_var 3) sa_nil)) sa_nil))) (ss_cons (ss_if (st_not (st_val (se_callP c__law_alike hr (sa_cons (se_callP c_scales_of hr (sa_cons (se_var 3) sa_nil)) (sa_cons (se_var 4) sa_nil))))) (ss_one (ss_ret se_bl)) ss_nil) (ss_cons (ss_if (st_isN (se_var 4)) (ss_cons (ss_set 6 sc_law.nd (se_own (sf_lst (sa_cons (se_toldD t__law_told_by TB rfl rfl hr (fun _ _ _ _ _ _ _ _ hr tk => (se_callX c_energy hr tk (sa_cons (se_var 3) (sa_cons (se_mulT (se_tup (sa_cons (se_tup (sa_cons se_int (sa_cons se_int sa_nil))) sa_nil)) (se_callB call_len_seq rn_len (by rfl) fr.len PySem.boot_len (sa_cons (se_var 3) sa_nil))) sa_nil))))) sa_nil)))) (ss_cons (ss_exp (se_append (se_var 6) (se_toldD t__law_told_by TB rfl rfl hr (fun _ _ _ _ _ _ _ _ hr tk => (se_callX c_squares_of hr tk (sa_cons (se_var 3) sa_nil)))))) (ss_cons (ss_exp (se_append (se_var 6) (se_toldD t__law_told_by TB rfl rfl hr (fun _ _ _ _ _ _ _ _ hr tk => (se_callX c_low_values hr tk (sa_cons (se_var 3) sa_nil)))))) (ss_one (ss_if (st_ne (hr.rm.units) (se_var 6) (se_frz (sf_mul (se_frz (sf_lst (sa_cons (se_tup (sa_cons se_str sa_nil)) sa_nil))) se_int))) (ss_one (ss_ret se_bl)) ss_nil))))) (ss_one (ss_if (st_not (st_tru (se_callS c__law_is_energy_right hr (sa_cons (se_var 1) (sa_cons (se_var 3) (sa_cons (se_var 4) sa_nil)))))) (ss_one (ss_ret se_bl)) ss_nil))) (ss_one (ss_if (st_ne (hr.rm.units) (se_callB (call_repr hr) rn_repr (by rfl) fr.repr PyProof.Rows.boot_repr (sa_cons (se_var 3) sa_nil)) (se_var 5)) (ss_one (ss_ret se_bl)) ss_nil))))))))) (ss_one (ss_ret se_bl))))
end
theorem all_mk {l : PySem.W.OpenLaw} {w : World} {K : PySem.W.Frag} {h : Heap} {mg : Str → Option Value} {fa : Addr} {f0 : Addr} {od0 an0 : Option Addr} {sl0 : Array (Option Value)} {oc0 kV0 dc0 pm0 cd0 ct0 : Value} {f1 : Addr} {od1 an1 : Option Addr} {sl1 : Array (Option Value)} {oc1 kV1 dc1 pm1 cd1 ct1 : Value} {f2 : Addr} {od2 an2 : Option Addr} {sl2 : Array (Option Value)} {oc2 kV2 dc2 pm2 cd2 ct2 : Value} {f3 : Addr} {od3 an3 : Option Addr} {sl3 : Array (Option Value)} {oc3 kV3 dc3 pm3 cd3 ct3 : Value} {f4 : Addr} {od4 an4 : Option Addr} {sl4 : Array (Option Value)} {oc4 kV4 dc4 pm4 cd4 ct4 : Value} {f5 : Addr} {od5 an5 : Option Addr} {sl5 : Array (Option Value)} {oc5 kV5 dc5 pm5 cd5 ct5 : Value} {f6 : Addr} {od6 an6 : Option Addr} {sl6 : Array (Option Value)} {oc6 kV6 dc6 pm6 cd6 ct6 : Value} {f7 : Addr} {od7 an7 : Option Addr} {sl7 : Array (Option Value)} {oc7 kV7 dc7 pm7 cd7 ct7 : Value} {f8 : Addr} {od8 an8 : Option Addr} {sl8 : Array (Option Value)} {oc8 kV8 dc8 pm8 cd8 ct8 : Value} {f9 : Addr} {od9 an9 : Option Addr} {sl9 : Array (Option Value)} {oc9 kV9 dc9 pm9 cd9 ct9 : Value} {f10 : Addr} {od10 an10 : Option Addr} {sl10 : Array (Option Value)} {oc10 kV10 dc10 pm10 cd10 ct10 : Value} {f11 : Addr} {od11 an11 : Option Addr} {sl11 : Array (Option Value)} {oc11 kV11 dc11 pm11 cd11 ct11 : Value} {f12 : Addr} {od12 an12 : Option Addr} {sl12 : Array (Option Value)} {oc12 kV12 dc12 pm12 cd12 ct12 : Value} {f13 : Addr} {od13 an13 : Option Addr} {sl13 : Array (Option Value)} {oc13 kV13 dc13 pm13 cd13 ct13 : Value} {f14 : Addr} {od14 an14 : Option Addr} {sl14 : Array (Option Value)} {oc14 kV14 dc14 pm14 cd14 ct14 : Value} {f15 : Addr} {od15 an15 : Option Addr} {sl15 : Array (Option Value)} {oc15 kV15 dc15 pm15 cd15 ct15 : Value} {f16 : Addr} {od16 an16 : Option Addr} {sl16 : Array (Option Value)} {oc16 kV16 dc16 pm16 cd16 ct16 : Value} {f17 : Addr} {od17 an17 : Option Addr} {sl17 : Array (Option Value)} {oc17 kV17 dc17 pm17 cd17 ct17 : Value} {f18 : Addr} {od18 an18 : Option Addr} {sl18 : Array (Option Value)} {oc18 kV18 dc18 pm18 cd18 ct18 : Value} {f19 : Addr} {od19 an19 : Option Addr} {sl19 : Array (Option Value)} {oc19 kV19 dc19 pm19 cd19 ct19 : Value} {f20 : Addr} {od20 an20 : Option Addr} {sl20 : Array (Option Value)} {oc20 kV20 dc20 pm20 cd20 ct20 : Value} {f21 : Addr} {od21 an21 : Option Addr} {sl21 : Array (Option Value)} {oc21 kV21 dc21 pm21 cd21 ct21 : Value} {f22 : Addr} {od22 an22 : Option Addr} {sl22 : Array (Option Value)} {oc22 kV22 dc22 pm22 cd22 ct22 : Value} {f23 : Addr} {od23 an23 : Option Addr} {sl23 : Array (Option Value)} {oc23 kV23 dc23 pm23 cd23 ct23 : Value} {f24 : Addr} {od24 an24 : Option Addr} {sl24 : Array (Option Value)} {oc24 kV24 dc24 pm24 cd24 ct24 : Value} {f25 : Addr} {od25 an25 : Option Addr} {sl25 : Array (Option Value)} {oc25 kV25 dc25 pm25 cd25 ct25 : Value} {f26 : Addr} {od26 an26 : Option Addr} {sl26 : Array (Option Value)} {oc26 kV26 dc26 pm26 cd26 ct26 : Value} {f27 : Addr} {od27 an27 : Option Addr} {sl27 : Array (Option Value)} {oc27 kV27 dc27 pm27 cd27 ct27 : Value} {f28 : Addr} {od28 an28 : Option Addr} {sl28 : Array (Option Value)} {oc28 kV28 dc28 pm28 cd28 ct28 : Value} {f29 : Addr} {od29 an29 : Option Addr} {sl29 : Array (Option Value)} {oc29 kV29 dc29 pm29 cd29 ct29 : Value} {f30 : Addr} {od30 an30 : Option Addr} {sl30 : Array (Option Value)} {oc30 kV30 dc30 pm30 cd30 ct30 : Value} {f31 : Addr} {od31 an31 : Option Addr} {sl31 : Array (Option Value)} {oc31 kV31 dc31 pm31 cd31 ct31 : Value} {f32 : Addr} {od32 an32 : Option Addr} {sl32 : Array (Option Value)} {oc32 kV32 dc32 pm32 cd32 ct32 : Value} {f33 : Addr} {od33 an33 : Option Addr} {sl33 : Array (Option Value)} {oc33 kV33 dc33 pm33 cd33 ct33 : Value} {f34 : Addr} {od34 an34 : Option Addr} {sl34 : Array (Option Value)} {oc34 kV34 dc34 pm34 cd34 ct34 : Value} {f35 : Addr} {od35 an35 : Option Addr} {sl35 : Array (Option Value)} {oc35 kV35 dc35 pm35 cd35 ct35 : Value} {f36 : Addr} {od36 an36 : Option Addr} {sl36 : Array (Option Value)} {oc36 kV36 dc36 pm36 cd36 ct36 : Value} {f37 : Addr} {od37 an37 : Option Addr} {sl37 : Array (Option Value)} {oc37 kV37 dc37 pm37 cd37 ct37 : Value} {f38 : Addr} {od38 an38 : Option Addr} {sl38 : Array (Option Value)} {oc38 kV38 dc38 pm38 cd38 ct38 : Value} {f39 : Addr} {od39 an39 : Option Addr} {sl39 : Array (Option Value)} {oc39 kV39 dc39 pm39 cd39 ct39 : Value} {f40 : Addr} {od40 an40 : Option Addr} {sl40 : Array (Option Value)} {oc40 kV40 dc40 pm40 cd40 ct40 : Value} {f41 : Addr} {od41 an41 : Option Addr} {sl41 : Array (Option Value)} {oc41 kV41 dc41 pm41 cd41 ct41 : Value} {f42 : Addr} {od42 an42 : Option Addr} {sl42 : Array (Option Value)} {oc42 kV42 dc42 pm42 cd42 ct42 : Value} {f43 : Addr} {od43 an43 : Option Addr} {sl43 : Array (Option Value)} {oc43 kV43 dc43 pm43 ct43 : Value} {gONE : Addr} {ogONE : Obj} {gZERO : Addr} {ogZERO : Obj} {CNotEven : Addr} {CNotTold : Addr} {CLateError : Addr} {ft_law_told_by : Addr} {odt_law_told_by ant_law_told_by : Option Addr} {slt_law_told_by : Array (Option Value)} {oct_law_told_by kVt_law_told_by dct_law_told_by pmt_law_told_by cdt_law_told_by ctt_law_told_by : Value} {cL TL : Addr} {eL : Value} {ddL : Option Addr} {vsL : Array Value} {slL : Array (Option Value)}
    (X : K.In h) (G : h.Ns mainGlobals mg) (hfa : mg "law" = some (.ref fa))
    (a0 : PySem.W.nsIn K mainGlobals "fraction" = some (some (.ref f0))) (l0 : K.lookup f0 = some ⟨oc0, od0, .func (PySem.W.fnOf "fraction" "fraction" (defArgs (topS 9)) (defBody (topS 9)) (defScope (topS 9)) .none kV0 dc0 pm0 an0 cd0 ct0), sl0⟩) (c0 : PySem.W.codeIn K cd0 "fraction" = true) (k0 : PySem.W.keepIn K (.ref f0) = true)
    (a1 : PySem.W.nsIn K mainGlobals "plus" = some (some (.ref f1))) (l1 : K.lookup f1 = some ⟨oc1, od1, .func (PySem.W.fnOf "plus" "plus" (defArgs (topS 10)) (defBody (topS 10)) (defScope (topS 10)) .none kV1 dc1 pm1 an1 cd1 ct1), sl1⟩) (c1 : PySem.W.codeIn K cd1 "plus" = true) (k1 : PySem.W.keepIn K (.ref f1) = true)
    (a2 : PySem.W.nsIn K mainGlobals "less" = some (some (.ref f2))) (l2 : K.lookup f2 = some ⟨oc2, od2, .func (PySem.W.fnOf "less" "less" (defArgs (topS 11)) (defBody (topS 11)) (defScope (topS 11)) .none kV2 dc2 pm2 an2 cd2 ct2), sl2⟩) (c2 : PySem.W.codeIn K cd2 "less" = true) (k2 : PySem.W.keepIn K (.ref f2) = true)
    (a3 : PySem.W.nsIn K mainGlobals "times" = some (some (.ref f3))) (l3 : K.lookup f3 = some ⟨oc3, od3, .func (PySem.W.fnOf "times" "times" (defArgs (topS 12)) (defBody (topS 12)) (defScope (topS 12)) .none kV3 dc3 pm3 an3 cd3 ct3), sl3⟩) (c3 : PySem.W.codeIn K cd3 "times" = true) (k3 : PySem.W.keepIn K (.ref f3) = true)
    (a4 : PySem.W.nsIn K mainGlobals "over" = some (some (.ref f4))) (l4 : K.lookup f4 = some ⟨oc4, od4, .func (PySem.W.fnOf "over" "over" (defArgs (topS 13)) (defBody (topS 13)) (defScope (topS 13)) .none kV4 dc4 pm4 an4 cd4 ct4), sl4⟩) (c4 : PySem.W.codeIn K cd4 "over" = true) (k4 : PySem.W.keepIn K (.ref f4) = true)
    (a5 : PySem.W.nsIn K mainGlobals "compare" = some (some (.ref f5))) (l5 : K.lookup f5 = some ⟨oc5, od5, .func (PySem.W.fnOf "compare" "compare" (defArgs (topS 14)) (defBody (topS 14)) (defScope (topS 14)) .none kV5 dc5 pm5 an5 cd5 ct5), sl5⟩) (c5 : PySem.W.codeIn K cd5 "compare" = true) (k5 : PySem.W.keepIn K (.ref f5) = true)
    (a6 : PySem.W.nsIn K mainGlobals "factor_of" = some (some (.ref f6))) (l6 : K.lookup f6 = some ⟨oc6, od6, .func (PySem.W.fnOf "factor_of" "factor_of" (defArgs (topS 16)) (defBody (topS 16)) (defScope (topS 16)) .none kV6 dc6 pm6 an6 cd6 ct6), sl6⟩) (c6 : PySem.W.codeIn K cd6 "factor_of" = true) (k6 : PySem.W.keepIn K (.ref f6) = true)
    (a7 : PySem.W.nsIn K mainGlobals "scale_beside" = some (some (.ref f7))) (l7 : K.lookup f7 = some ⟨oc7, od7, .func (PySem.W.fnOf "scale_beside" "scale_beside" (defArgs (topS 17)) (defBody (topS 17)) (defScope (topS 17)) .none kV7 dc7 pm7 an7 cd7 ct7), sl7⟩) (c7 : PySem.W.codeIn K cd7 "scale_beside" = true) (k7 : PySem.W.keepIn K (.ref f7) = true)
    (a8 : PySem.W.nsIn K mainGlobals "scales_of" = some (some (.ref f8))) (l8 : K.lookup f8 = some ⟨oc8, od8, .func (PySem.W.fnOf "scales_of" "scales_of" (defArgs (topS 18)) (defBody (topS 18)) (defScope (topS 18)) .none kV8 dc8 pm8 an8 cd8 ct8), sl8⟩) (c8 : PySem.W.codeIn K cd8 "scales_of" = true) (k8 : PySem.W.keepIn K (.ref f8) = true)
    (a9 : PySem.W.nsIn K mainGlobals "need_scales" = some (some (.ref f9))) (l9 : K.lookup f9 = some ⟨oc9, od9, .func (PySem.W.fnOf "need_scales" "need_scales" (defArgs (topS 19)) (defBody (topS 19)) (defScope (topS 19)) .none kV9 dc9 pm9 an9 cd9 ct9), sl9⟩) (c9 : PySem.W.codeIn K cd9 "need_scales" = true) (k9 : PySem.W.keepIn K (.ref f9) = true)
    (a10 : PySem.W.nsIn K mainGlobals "energy_rows" = some (some (.ref f10))) (l10 : K.lookup f10 = some ⟨oc10, od10, .func (PySem.W.fnOf "energy_rows" "energy_rows" (defArgs (topS 20)) (defBody (topS 20)) (defScope (topS 20)) .none kV10 dc10 pm10 an10 cd10 ct10), sl10⟩) (c10 : PySem.W.codeIn K cd10 "energy_rows" = true) (k10 : PySem.W.keepIn K (.ref f10) = true)
    (a11 : PySem.W.nsIn K mainGlobals "energy" = some (some (.ref f11))) (l11 : K.lookup f11 = some ⟨oc11, od11, .func (PySem.W.fnOf "energy" "energy" (defArgs (topS 21)) (defBody (topS 21)) (defScope (topS 21)) .none kV11 dc11 pm11 an11 cd11 ct11), sl11⟩) (c11 : PySem.W.codeIn K cd11 "energy" = true) (k11 : PySem.W.keepIn K (.ref f11) = true)
    (a12 : PySem.W.nsIn K mainGlobals "squares_until" = some (some (.ref f12))) (l12 : K.lookup f12 = some ⟨oc12, od12, .func (PySem.W.fnOf "squares_until" "squares_until" (defArgs (topS 22)) (defBody (topS 22)) (defScope (topS 22)) .none kV12 dc12 pm12 an12 cd12 ct12), sl12⟩) (c12 : PySem.W.codeIn K cd12 "squares_until" = true) (k12 : PySem.W.keepIn K (.ref f12) = true)
    (a13 : PySem.W.nsIn K mainGlobals "squares_of" = some (some (.ref f13))) (l13 : K.lookup f13 = some ⟨oc13, od13, .func (PySem.W.fnOf "squares_of" "squares_of" (defArgs (topS 23)) (defBody (topS 23)) (defScope (topS 23)) .none kV13 dc13 pm13 an13 cd13 ct13), sl13⟩) (c13 : PySem.W.codeIn K cd13 "squares_of" = true) (k13 : PySem.W.keepIn K (.ref f13) = true)
    (a14 : PySem.W.nsIn K mainGlobals "low_values" = some (some (.ref f14))) (l14 : K.lookup f14 = some ⟨oc14, od14, .func (PySem.W.fnOf "low_values" "low_values" (defArgs (topS 24)) (defBody (topS 24)) (defScope (topS 24)) .none kV14 dc14 pm14 an14 cd14 ct14), sl14⟩) (c14 : PySem.W.codeIn K cd14 "low_values" = true) (k14 : PySem.W.keepIn K (.ref f14) = true)
    (a15 : PySem.W.nsIn K mainGlobals "_law_bag" = some (some (.ref f15))) (l15 : K.lookup f15 = some ⟨oc15, od15, .func (PySem.W.fnOf "_law_bag" "_law_bag" (defArgs (topS 26)) (defBody (topS 26)) (defScope (topS 26)) .none kV15 dc15 pm15 an15 cd15 ct15), sl15⟩) (c15 : PySem.W.codeIn K cd15 "_law_bag" = true) (k15 : PySem.W.keepIn K (.ref f15) = true)
    (a16 : PySem.W.nsIn K mainGlobals "_law_take" = some (some (.ref f16))) (l16 : K.lookup f16 = some ⟨oc16, od16, .func (PySem.W.fnOf "_law_take" "_law_take" (defArgs (topS 27)) (defBody (topS 27)) (defScope (topS 27)) .none kV16 dc16 pm16 an16 cd16 ct16), sl16⟩) (c16 : PySem.W.codeIn K cd16 "_law_take" = true) (k16 : PySem.W.keepIn K (.ref f16) = true)
    (a17 : PySem.W.nsIn K mainGlobals "_law_some" = some (some (.ref f17))) (l17 : K.lookup f17 = some ⟨oc17, od17, .func (PySem.W.fnOf "_law_some" "_law_some" (defArgs (topS 28)) (defBody (topS 28)) (defScope (topS 28)) .none kV17 dc17 pm17 an17 cd17 ct17), sl17⟩) (c17 : PySem.W.codeIn K cd17 "_law_some" = true) (k17 : PySem.W.keepIn K (.ref f17) = true)
    (a18 : PySem.W.nsIn K mainGlobals "_law_mixed" = some (some (.ref f18))) (l18 : K.lookup f18 = some ⟨oc18, od18, .func (PySem.W.fnOf "_law_mixed" "_law_mixed" (defArgs (topS 29)) (defBody (topS 29)) (defScope (topS 29)) .none kV18 dc18 pm18 an18 cd18 ct18), sl18⟩) (c18 : PySem.W.codeIn K cd18 "_law_mixed" = true) (k18 : PySem.W.keepIn K (.ref f18) = true)
    (a19 : PySem.W.nsIn K mainGlobals "_law_alike" = some (some (.ref f19))) (l19 : K.lookup f19 = some ⟨oc19, od19, .func (PySem.W.fnOf "_law_alike" "_law_alike" (defArgs (topS 30)) (defBody (topS 30)) (defScope (topS 30)) .none kV19 dc19 pm19 an19 cd19 ct19), sl19⟩) (c19 : PySem.W.codeIn K cd19 "_law_alike" = true) (k19 : PySem.W.keepIn K (.ref f19) = true)
    (a20 : PySem.W.nsIn K mainGlobals "_law_gcd" = some (some (.ref f20))) (l20 : K.lookup f20 = some ⟨oc20, od20, .func (PySem.W.fnOf "_law_gcd" "_law_gcd" (defArgs (topS 31)) (defBody (topS 31)) (defScope (topS 31)) .none kV20 dc20 pm20 an20 cd20 ct20), sl20⟩) (c20 : PySem.W.codeIn K cd20 "_law_gcd" = true) (k20 : PySem.W.keepIn K (.ref f20) = true)
    (a21 : PySem.W.nsIn K mainGlobals "_law_f" = some (some (.ref f21))) (l21 : K.lookup f21 = some ⟨oc21, od21, .func (PySem.W.fnOf "_law_f" "_law_f" (defArgs (topS 32)) (defBody (topS 32)) (defScope (topS 32)) .none kV21 dc21 pm21 an21 cd21 ct21), sl21⟩) (c21 : PySem.W.codeIn K cd21 "_law_f" = true) (k21 : PySem.W.keepIn K (.ref f21) = true)
    (a22 : PySem.W.nsIn K mainGlobals "_law_plus" = some (some (.ref f22))) (l22 : K.lookup f22 = some ⟨oc22, od22, .func (PySem.W.fnOf "_law_plus" "_law_plus" (defArgs (topS 33)) (defBody (topS 33)) (defScope (topS 33)) .none kV22 dc22 pm22 an22 cd22 ct22), sl22⟩) (c22 : PySem.W.codeIn K cd22 "_law_plus" = true) (k22 : PySem.W.keepIn K (.ref f22) = true)
    (a23 : PySem.W.nsIn K mainGlobals "_law_minus" = some (some (.ref f23))) (l23 : K.lookup f23 = some ⟨oc23, od23, .func (PySem.W.fnOf "_law_minus" "_law_minus" (defArgs (topS 34)) (defBody (topS 34)) (defScope (topS 34)) .none kV23 dc23 pm23 an23 cd23 ct23), sl23⟩) (c23 : PySem.W.codeIn K cd23 "_law_minus" = true) (k23 : PySem.W.keepIn K (.ref f23) = true)
    (a24 : PySem.W.nsIn K mainGlobals "_law_by" = some (some (.ref f24))) (l24 : K.lookup f24 = some ⟨oc24, od24, .func (PySem.W.fnOf "_law_by" "_law_by" (defArgs (topS 35)) (defBody (topS 35)) (defScope (topS 35)) .none kV24 dc24 pm24 an24 cd24 ct24), sl24⟩) (c24 : PySem.W.codeIn K cd24 "_law_by" = true) (k24 : PySem.W.keepIn K (.ref f24) = true)
    (a25 : PySem.W.nsIn K mainGlobals "_law_below" = some (some (.ref f25))) (l25 : K.lookup f25 = some ⟨oc25, od25, .func (PySem.W.fnOf "_law_below" "_law_below" (defArgs (topS 36)) (defBody (topS 36)) (defScope (topS 36)) .none kV25 dc25 pm25 an25 cd25 ct25), sl25⟩) (c25 : PySem.W.codeIn K cd25 "_law_below" = true) (k25 : PySem.W.keepIn K (.ref f25) = true)
    (a26 : PySem.W.nsIn K mainGlobals "_law_total" = some (some (.ref f26))) (l26 : K.lookup f26 = some ⟨oc26, od26, .func (PySem.W.fnOf "_law_total" "_law_total" (defArgs (topS 37)) (defBody (topS 37)) (defScope (topS 37)) .none kV26 dc26 pm26 an26 cd26 ct26), sl26⟩) (c26 : PySem.W.codeIn K cd26 "_law_total" = true) (k26 : PySem.W.keepIn K (.ref f26) = true)
    (a27 : PySem.W.nsIn K mainGlobals "_law_value" = some (some (.ref f27))) (l27 : K.lookup f27 = some ⟨oc27, od27, .func (PySem.W.fnOf "_law_value" "_law_value" (defArgs (topS 38)) (defBody (topS 38)) (defScope (topS 38)) .none kV27 dc27 pm27 an27 cd27 ct27), sl27⟩) (c27 : PySem.W.codeIn K cd27 "_law_value" = true) (k27 : PySem.W.keepIn K (.ref f27) = true)
    (a28 : PySem.W.nsIn K mainGlobals "_law_some_fraction" = some (some (.ref f28))) (l28 : K.lookup f28 = some ⟨oc28, od28, .func (PySem.W.fnOf "_law_some_fraction" "_law_some_fraction" (defArgs (topS 39)) (defBody (topS 39)) (defScope (topS 39)) .none kV28 dc28 pm28 an28 cd28 ct28), sl28⟩) (c28 : PySem.W.codeIn K cd28 "_law_some_fraction" = true) (k28 : PySem.W.keepIn K (.ref f28) = true)
    (a29 : PySem.W.nsIn K mainGlobals "_law_shared_rule" = some (some (.ref f29))) (l29 : K.lookup f29 = some ⟨oc29, od29, .func (PySem.W.fnOf "_law_shared_rule" "_law_shared_rule" (defArgs (topS 40)) (defBody (topS 40)) (defScope (topS 40)) .none kV29 dc29 pm29 an29 cd29 ct29), sl29⟩) (c29 : PySem.W.codeIn K cd29 "_law_shared_rule" = true) (k29 : PySem.W.keepIn K (.ref f29) = true)
    (a30 : PySem.W.nsIn K mainGlobals "_law_some_cells" = some (some (.ref f30))) (l30 : K.lookup f30 = some ⟨oc30, od30, .func (PySem.W.fnOf "_law_some_cells" "_law_some_cells" (defArgs (topS 41)) (defBody (topS 41)) (defScope (topS 41)) .none kV30 dc30 pm30 an30 cd30 ct30), sl30⟩) (c30 : PySem.W.codeIn K cd30 "_law_some_cells" = true) (k30 : PySem.W.keepIn K (.ref f30) = true)
    (a31 : PySem.W.nsIn K mainGlobals "_law_light_book" = some (some (.ref f31))) (l31 : K.lookup f31 = some ⟨oc31, od31, .func (PySem.W.fnOf "_law_light_book" "_law_light_book" (defArgs (topS 42)) (defBody (topS 42)) (defScope (topS 42)) .none kV31 dc31 pm31 an31 cd31 ct31), sl31⟩) (c31 : PySem.W.codeIn K cd31 "_law_light_book" = true) (k31 : PySem.W.keepIn K (.ref f31) = true)
    (a32 : PySem.W.nsIn K mainGlobals "_law_heavy_book" = some (some (.ref f32))) (l32 : K.lookup f32 = some ⟨oc32, od32, .func (PySem.W.fnOf "_law_heavy_book" "_law_heavy_book" (defArgs (topS 43)) (defBody (topS 43)) (defScope (topS 43)) .none kV32 dc32 pm32 an32 cd32 ct32), sl32⟩) (c32 : PySem.W.codeIn K cd32 "_law_heavy_book" = true) (k32 : PySem.W.keepIn K (.ref f32) = true)
    (a33 : PySem.W.nsIn K mainGlobals "_law_any_book" = some (some (.ref f33))) (l33 : K.lookup f33 = some ⟨oc33, od33, .func (PySem.W.fnOf "_law_any_book" "_law_any_book" (defArgs (topS 44)) (defBody (topS 44)) (defScope (topS 44)) .none kV33 dc33 pm33 an33 cd33 ct33), sl33⟩) (c33 : PySem.W.codeIn K cd33 "_law_any_book" = true) (k33 : PySem.W.keepIn K (.ref f33) = true)
    (a34 : PySem.W.nsIn K mainGlobals "_law_book" = some (some (.ref f34))) (l34 : K.lookup f34 = some ⟨oc34, od34, .func (PySem.W.fnOf "_law_book" "_law_book" (defArgs (topS 45)) (defBody (topS 45)) (defScope (topS 45)) .none kV34 dc34 pm34 an34 cd34 ct34), sl34⟩) (c34 : PySem.W.codeIn K cd34 "_law_book" = true) (k34 : PySem.W.keepIn K (.ref f34) = true)
    (a35 : PySem.W.nsIn K mainGlobals "_law_even_book" = some (some (.ref f35))) (l35 : K.lookup f35 = some ⟨oc35, od35, .func (PySem.W.fnOf "_law_even_book" "_law_even_book" (defArgs (topS 46)) (defBody (topS 46)) (defScope (topS 46)) .none kV35 dc35 pm35 an35 cd35 ct35), sl35⟩) (c35 : PySem.W.codeIn K cd35 "_law_even_book" = true) (k35 : PySem.W.keepIn K (.ref f35) = true)
    (a36 : PySem.W.nsIn K mainGlobals "_law_over" = some (some (.ref f36))) (l36 : K.lookup f36 = some ⟨oc36, od36, .func (PySem.W.fnOf "_law_over" "_law_over" (defArgs (topS 47)) (defBody (topS 47)) (defScope (topS 47)) .none kV36 dc36 pm36 an36 cd36 ct36), sl36⟩) (c36 : PySem.W.codeIn K cd36 "_law_over" = true) (k36 : PySem.W.keepIn K (.ref f36) = true)
    (a37 : PySem.W.nsIn K mainGlobals "_law_scales" = some (some (.ref f37))) (l37 : K.lookup f37 = some ⟨oc37, od37, .func (PySem.W.fnOf "_law_scales" "_law_scales" (defArgs (topS 48)) (defBody (topS 48)) (defScope (topS 48)) .none kV37 dc37 pm37 an37 cd37 ct37), sl37⟩) (c37 : PySem.W.codeIn K cd37 "_law_scales" = true) (k37 : PySem.W.keepIn K (.ref f37) = true)
    (a38 : PySem.W.nsIn K mainGlobals "_law_energy" = some (some (.ref f38))) (l38 : K.lookup f38 = some ⟨oc38, od38, .func (PySem.W.fnOf "_law_energy" "_law_energy" (defArgs (topS 49)) (defBody (topS 49)) (defScope (topS 49)) .none kV38 dc38 pm38 an38 cd38 ct38), sl38⟩) (c38 : PySem.W.codeIn K cd38 "_law_energy" = true) (k38 : PySem.W.keepIn K (.ref f38) = true)
    (a39 : PySem.W.nsIn K mainGlobals "_law_few_values" = some (some (.ref f39))) (l39 : K.lookup f39 = some ⟨oc39, od39, .func (PySem.W.fnOf "_law_few_values" "_law_few_values" (defArgs (topS 50)) (defBody (topS 50)) (defScope (topS 50)) .none kV39 dc39 pm39 an39 cd39 ct39), sl39⟩) (c39 : PySem.W.codeIn K cd39 "_law_few_values" = true) (k39 : PySem.W.keepIn K (.ref f39) = true)
    (a40 : PySem.W.nsIn K mainGlobals "_law_is_small" = some (some (.ref f40))) (l40 : K.lookup f40 = some ⟨oc40, od40, .func (PySem.W.fnOf "_law_is_small" "_law_is_small" (defArgs (topS 52)) (defBody (topS 52)) (defScope (topS 52)) .none kV40 dc40 pm40 an40 cd40 ct40), sl40⟩) (c40 : PySem.W.codeIn K cd40 "_law_is_small" = true) (k40 : PySem.W.keepIn K (.ref f40) = true)
    (a41 : PySem.W.nsIn K mainGlobals "_law_spoilt" = some (some (.ref f41))) (l41 : K.lookup f41 = some ⟨oc41, od41, .func (PySem.W.fnOf "_law_spoilt" "_law_spoilt" (defArgs (topS 53)) (defBody (topS 53)) (defScope (topS 53)) .none kV41 dc41 pm41 an41 cd41 ct41), sl41⟩) (c41 : PySem.W.codeIn K cd41 "_law_spoilt" = true) (k41 : PySem.W.keepIn K (.ref f41) = true)
    (a42 : PySem.W.nsIn K mainGlobals "_law_is_energy_right" = some (some (.ref f42))) (l42 : K.lookup f42 = some ⟨oc42, od42, .func (PySem.W.fnOf "_law_is_energy_right" "_law_is_energy_right" (defArgs (topS 54)) (defBody (topS 54)) (defScope (topS 54)) .none kV42 dc42 pm42 an42 cd42 ct42), sl42⟩) (c42 : PySem.W.codeIn K cd42 "_law_is_energy_right" = true) (k42 : PySem.W.keepIn K (.ref f42) = true)
    (a43 : PySem.W.nsIn K mainGlobals "law" = some (some (.ref f43))) (l43 : K.lookup f43 = some ⟨oc43, od43, .func (PySem.W.fnOf "law" "law" (defArgs (topS 55)) (defBody (topS 55)) (defScope (topS 55)) .none kV43 dc43 pm43 an43 (.ref cL) ct43), sl43⟩) (c43 : PySem.W.codeIn K (.ref cL) "law" = true) (k43 : PySem.W.keepIn K (.ref f43) = true)
    (zcONE : PySem.W.nsIn K mainGlobals "ONE" = some (some (.ref gONE))) (zlONE : K.lookup gONE = some ogONE) (ziONE : isTupI ogONE [1, 1] = true)
    (zcZERO : PySem.W.nsIn K mainGlobals "ZERO" = some (some (.ref gZERO))) (zlZERO : K.lookup gZERO = some ogZERO) (ziZERO : isTupI ogZERO [0, 1] = true)
    (zg : PySem.W.nsIn K mainGlobals "gcd" = some (some (.builtin "math.gcd")))
    (zabs : PySem.W.nsIn K mainGlobals "abs" = some none)
    (zany : PySem.W.nsIn K mainGlobals "any" = some none)
    (zenumerate : PySem.W.nsIn K mainGlobals "enumerate" = some none)
    (zint : PySem.W.nsIn K mainGlobals "int" = some none)
    (zlen : PySem.W.nsIn K mainGlobals "len" = some none)
    (zlist : PySem.W.nsIn K mainGlobals "list" = some none)
    (zmax : PySem.W.nsIn K mainGlobals "max" = some none)
    (zrange : PySem.W.nsIn K mainGlobals "range" = some none)
    (zrepr : PySem.W.nsIn K mainGlobals "repr" = some none)
    (zsorted : PySem.W.nsIn K mainGlobals "sorted" = some none)
    (zsum : PySem.W.nsIn K mainGlobals "sum" = some none)
    (ztuple : PySem.W.nsIn K mainGlobals "tuple" = some none)
    (zzip : PySem.W.nsIn K mainGlobals "zip" = some none)
    (eaNotEven : PySem.W.nsIn K mainGlobals "NotEven" = some (some (.ref CNotEven))) (ebNotEven : PySem.W.subIn K (.ref CNotEven) (.type "BaseException") = some true) (eiNotEven : PySem.W.isClsIn K CNotEven = true) (etNotEven : PySem.W.typeIn K (.ref CNotEven) = some (.type "type"))
    (ekNotEven : PySem.W.keepIn K (.ref CNotEven) = true) (exNotEven : PySem.W.excIn K CNotEven [.type "ValueError", .type "Exception", .type "BaseException", .type "object"] "ValueError.__new__" = true)
    (eaNotTold : PySem.W.nsIn K mainGlobals "NotTold" = some (some (.ref CNotTold))) (ebNotTold : PySem.W.subIn K (.ref CNotTold) (.type "BaseException") = some true) (eiNotTold : PySem.W.isClsIn K CNotTold = true) (etNotTold : PySem.W.typeIn K (.ref CNotTold) = some (.type "type"))
    (eaLateError : PySem.W.nsIn K mainGlobals "LateError" = some (some (.ref CLateError))) (ebLateError : PySem.W.subIn K (.ref CLateError) (.type "BaseException") = some true) (eiLateError : PySem.W.isClsIn K CLateError = true) (etLateError : PySem.W.typeIn K (.ref CLateError) = some (.type "type"))
    (esNotEven_NotEven : PySem.W.subIn K (.ref CNotEven) (.ref CNotEven) = some true)
    (at_law_told_by : PySem.W.nsIn K mainGlobals "_law_told_by" = some (some (.ref ft_law_told_by))) (lt_law_told_by : K.lookup ft_law_told_by = some ⟨oct_law_told_by, odt_law_told_by, .func (PySem.W.fnOf "_law_told_by" "_law_told_by" (defArgs (topS 51)) (defBody (topS 51)) (defScope (topS 51)) .none kVt_law_told_by dct_law_told_by pmt_law_told_by ant_law_told_by cdt_law_told_by ctt_law_told_by), slt_law_told_by⟩) (ct_law_told_by : PySem.W.codeIn K cdt_law_told_by "_law_told_by" = true) (kt_law_told_by : PySem.W.keepIn K (.ref ft_law_told_by) = true)
    (tk : K.lookup cL = some ⟨eL, ddL, .fields vsL, slL⟩) (tv : vsL[11]? = some (.ref TL)) (tn : K.lookup TL = none) (th : PySem.W.codeHdIn K cL TL = true) (own : LamX.OwnTab K fa h)
    : ∃ (fd : FuncData) (c T : Addr), h.get? T = some { cls := .none, data := .fields #[] } ∧ K.lookup T = none ∧ PySem.W.codeHdIn K c T = true ∧ (∀ (s : Shared) (v : Value), BindsTo s fd ⟨[v], []⟩ [("_law_script", v)]) ∧ ∀ base : Heap, K.In base → base.Ns mainGlobals mg → LamX.TabB base mg c T → FK l.prog w K mg base 10 fa fd ["_law_script"] (spS K 1 (F_law T)) := by
  have e := hfa.symm.trans (PySem.W.mg_of X G a43)
  cases e
  have F0 := fun_mk (st := topS 9) l0 c0 k0
  have F1 := fun_mk (st := topS 10) l1 c1 k1
  have F2 := fun_mk (st := topS 11) l2 c2 k2
  have F3 := fun_mk (st := topS 12) l3 c3 k3
  have F4 := fun_mk (st := topS 13) l4 c4 k4
  have F5 := fun_mk (st := topS 14) l5 c5 k5
  have F6 := fun_mk (st := topS 16) l6 c6 k6
  have F7 := fun_mk (st := topS 17) l7 c7 k7
  have F8 := fun_mk (st := topS 18) l8 c8 k8
  have F9 := fun_mk (st := topS 19) l9 c9 k9
  have F10 := fun_mk (st := topS 20) l10 c10 k10
  have F11 := fun_mk (st := topS 21) l11 c11 k11
  have F12 := fun_mk (st := topS 22) l12 c12 k12
  have F13 := fun_mk (st := topS 23) l13 c13 k13
  have F14 := fun_mk (st := topS 24) l14 c14 k14
  have F15 := fun_mk (st := topS 26) l15 c15 k15
  have F16 := fun_mk (st := topS 27) l16 c16 k16
  have F17 := fun_mk (st := topS 28) l17 c17 k17
  have F18 := fun_mk (st := topS 29) l18 c18 k18
  have F19 := fun_mk (st := topS 30) l19 c19 k19
  have F20 := fun_mk (st := topS 31) l20 c20 k20
  have F21 := fun_mk (st := topS 32) l21 c21 k21
  have F22 := fun_mk (st := topS 33) l22 c22 k22
  have F23 := fun_mk (st := topS 34) l23 c23 k23
  have F24 := fun_mk (st := topS 35) l24 c24 k24
  have F25 := fun_mk (st := topS 36) l25 c25 k25
  have F26 := fun_mk (st := topS 37) l26 c26 k26
  have F27 := fun_mk (st := topS 38) l27 c27 k27
  have F28 := fun_mk (st := topS 39) l28 c28 k28
  have F29 := fun_mk (st := topS 40) l29 c29 k29
  have F30 := fun_mk (st := topS 41) l30 c30 k30
  have F31 := fun_mk (st := topS 42) l31 c31 k31
  have F32 := fun_mk (st := topS 43) l32 c32 k32
  have F33 := fun_mk (st := topS 44) l33 c33 k33
  have F34 := fun_mk (st := topS 45) l34 c34 k34
  have F35 := fun_mk (st := topS 46) l35 c35 k35
  have F36 := fun_mk (st := topS 47) l36 c36 k36
  have F37 := fun_mk (st := topS 48) l37 c37 k37
  have F38 := fun_mk (st := topS 49) l38 c38 k38
  have F39 := fun_mk (st := topS 50) l39 c39 k39
  have F40 := fun_mk (st := topS 52) l40 c40 k40
  have F41 := fun_mk (st := topS 53) l41 c41 k41
  have F42 := fun_mk (st := topS 54) l42 c42 k42
  have F43 := fun_mk (st := topS 55) l43 c43 k43
  have fr : Free mg := ⟨PySem.W.mg_none_of X G zabs, PySem.W.mg_none_of X G zany, PySem.W.mg_none_of X G zenumerate, PySem.W.mg_none_of X G zint, PySem.W.mg_none_of X G zlen, PySem.W.mg_none_of X G zlist, PySem.W.mg_none_of X G zmax, PySem.W.mg_none_of X G zrange, PySem.W.mg_none_of X G zrepr, PySem.W.mg_none_of X G zsorted, PySem.W.mg_none_of X G zsum, PySem.W.mg_none_of X G ztuple, PySem.W.mg_none_of X G zzip⟩
  have k_ONE : CK K mg "ONE" ONEd := ck_tupI (PySem.W.mg_of X G zcONE) zlONE ziONE
  have k_ZERO : CK K mg "ZERO" ZEROd := ck_tupI (PySem.W.mg_of X G zcZERO) zlZERO ziZERO
  have k_gcd := PySem.W.mg_of X G zg
  have x_NotEven := exCls_mk (PySem.W.mg_of X G eaNotEven) exNotEven ekNotEven ebNotEven etNotEven
  have t__law_told_by : ToldD K mg "_law_told_by" (fun c => if c = "NotEven" then some "not even" else none) "told" := by
    refine ⟨ft_law_told_by, oct_law_told_by, kVt_law_told_by, dct_law_told_by, pmt_law_told_by, cdt_law_told_by, ctt_law_told_by, .none, ant_law_told_by, odt_law_told_by, slt_law_told_by, defArgs (topS 51), defBody (topS 51), defScope (topS 51), ["_law_act"], "_law_act", [(.ref CNotEven, "not even"), (.ref CNotTold, "not told"), (.ref CLateError, "other")], PySem.W.mg_of X G at_law_told_by, kt_law_told_by, lt_law_told_by, ct_law_told_by, (fun_mk (st := topS 51) lt_law_told_by ct_law_told_by kt_law_told_by).binds fun _ _ _ _ _ _ us hl => match us, hl with | [_], _ => rfl, ⟨rfl, rfl, rfl, by decide +kernel, rfl, by decide +kernel, by decide +kernel⟩, rfl, Or.inl rfl, by decide, by decide, fun Y eK eM q => ?_, fun c m hc C hC => ?_⟩
    · subst eK
      have g1 : Y.mg "NotEven" = some (.ref CNotEven) := by rw [eM]; exact PySem.W.mg_of X G eaNotEven
      have g2 : Y.mg "NotTold" = some (.ref CNotTold) := by rw [eM]; exact PySem.W.mg_of X G eaNotTold
      have g3 : Y.mg "LateError" = some (.ref CLateError) := by rw [eM]; exact PySem.W.mg_of X G eaLateError
      exact told_gives3 rfl rfl rfl g1 g2 g3 (by decide) (by decide) (by decide) (fun f => rfl)
    · try dsimp only at hc
      by_cases h_NotEven : c = "NotEven"
      · subst h_NotEven
        rw [if_pos rfl] at hc
        cases hc
        rw [PySem.W.mg_of X G eaNotEven] at hC
        cases hC
        exact .here (exm_mk ebNotEven eiNotEven etNotEven esNotEven_NotEven)
      rw [if_neg h_NotEven] at hc
      cases hc
  refine ⟨PySem.W.fnOf "law" "law" (defArgs (topS 55)) (defBody (topS 55)) (defScope (topS 55)) .none kV43 dc43 pm43 an43 (.ref cL) ct43, cL, TL, own cL TL _ _ _ _ _ _ l43 rfl rfl tk tv, tn, th, fun s v => .of_eq rfl, fun base _ _ TB => ?_⟩
  have d0 := ok_fraction (P := l.prog) (w := w) (base := base) fr k_gcd F0 (PySem.W.mg_of X G a0)
  have d1 := ok_plus (P := l.prog) (w := w) (base := base) fr d0 F1 (PySem.W.mg_of X G a1)
  have d2 := ok_less (P := l.prog) (w := w) (base := base) fr d0 F2 (PySem.W.mg_of X G a2)
  have d3 := ok_times (P := l.prog) (w := w) (base := base) fr d0 F3 (PySem.W.mg_of X G a3)
  have d4 := ok_over (P := l.prog) (w := w) (base := base) fr d0 F4 (PySem.W.mg_of X G a4)
  have d5 := ok_compare (P := l.prog) (w := w) (base := base) fr F5 (PySem.W.mg_of X G a5)
  have d6 := ok_factor_of (P := l.prog) (w := w) (base := base) fr F6 (PySem.W.mg_of X G a6)
  have d7 := ok_scale_beside (P := l.prog) (w := w) (base := base) fr k_ZERO d5 d6 d4 d3 F7 (PySem.W.mg_of X G a7)
  have d8 := ok_scales_of (P := l.prog) (w := w) (base := base) fr k_ONE k_ZERO d6 d7 F8 (PySem.W.mg_of X G a8)
  have d9 := ok_need_scales (P := l.prog) (w := w) (base := base) fr x_NotEven d8 F9 (PySem.W.mg_of X G a9)
  have d10 := ok_energy_rows (P := l.prog) (w := w) (base := base) fr k_ZERO d2 d9 d3 F10 (PySem.W.mg_of X G a10)
  have d11 := ok_energy (P := l.prog) (w := w) (base := base) fr k_ZERO d10 d1 d3 F11 (PySem.W.mg_of X G a11)
  have d12 := ok_squares_until (P := l.prog) (w := w) (base := base) fr k_ZERO d5 d2 d4 d3 F12 (PySem.W.mg_of X G a12)
  have d13 := ok_squares_of (P := l.prog) (w := w) (base := base) fr k_ZERO d5 d10 d12 F13 (PySem.W.mg_of X G a13)
  have d14 := ok_low_values (P := l.prog) (w := w) (base := base) fr k_ONE k_ZERO d5 d10 d2 d12 d3 F14 (PySem.W.mg_of X G a14)
  have d15 := ok__law_bag (P := l.prog) (w := w) (base := base) fr F15 (PySem.W.mg_of X G a15)
  have d16 := ok__law_take (P := l.prog) (w := w) (base := base) fr F16 (PySem.W.mg_of X G a16)
  have d17 := ok__law_some (P := l.prog) (w := w) (base := base) fr d16 F17 (PySem.W.mg_of X G a17)
  have d18 := ok__law_mixed (P := l.prog) (w := w) (base := base) fr d16 F18 (PySem.W.mg_of X G a18)
  have d19 := ok__law_alike (P := l.prog) (w := w) (base := base) fr F19 (PySem.W.mg_of X G a19)
  have d20 := ok__law_gcd (P := l.prog) (w := w) (base := base) fr F20 (PySem.W.mg_of X G a20)
  have d21 := ok__law_f (P := l.prog) (w := w) (base := base) fr d20 F21 (PySem.W.mg_of X G a21)
  have d22 := ok__law_plus (P := l.prog) (w := w) (base := base) fr d21 F22 (PySem.W.mg_of X G a22)
  have d23 := ok__law_minus (P := l.prog) (w := w) (base := base) fr d21 F23 (PySem.W.mg_of X G a23)
  have d24 := ok__law_by (P := l.prog) (w := w) (base := base) fr d21 F24 (PySem.W.mg_of X G a24)
  have d25 := ok__law_below (P := l.prog) (w := w) (base := base) fr F25 (PySem.W.mg_of X G a25)
  have d26 := ok__law_total (P := l.prog) (w := w) (base := base) fr d22 F26 (PySem.W.mg_of X G a26)
  have d27 := ok__law_value (P := l.prog) (w := w) (base := base) fr d24 d26 F27 (PySem.W.mg_of X G a27)
  have d28 := ok__law_some_fraction (P := l.prog) (w := w) (base := base) fr d17 d16 F28 (PySem.W.mg_of X G a28)
  have d29 := ok__law_shared_rule (P := l.prog) (w := w) (base := base) fr d24 d21 d17 d28 d16 F29 (PySem.W.mg_of X G a29)
  have d30 := ok__law_some_cells (P := l.prog) (w := w) (base := base) fr d16 F30 (PySem.W.mg_of X G a30)
  have d31 := ok__law_light_book (P := l.prog) (w := w) (base := base) fr d29 d17 d30 d16 F31 (PySem.W.mg_of X G a31)
  have d32 := ok__law_heavy_book (P := l.prog) (w := w) (base := base) fr d18 d29 d17 d30 d16 F32 (PySem.W.mg_of X G a32)
  have d33 := ok__law_any_book (P := l.prog) (w := w) (base := base) fr d17 d28 d16 F33 (PySem.W.mg_of X G a33)
  have d34 := ok__law_book (P := l.prog) (w := w) (base := base) fr d33 d32 d31 d16 F34 (PySem.W.mg_of X G a34)
  have d35 := ok__law_even_book (P := l.prog) (w := w) (base := base) fr d21 d17 d28 d16 F35 (PySem.W.mg_of X G a35)
  have d36 := ok__law_over (P := l.prog) (w := w) (base := base) fr d21 F36 (PySem.W.mg_of X G a36)
  have d37 := ok__law_scales (P := l.prog) (w := w) (base := base) fr d24 d36 F37 (PySem.W.mg_of X G a37)
  have d38 := ok__law_energy (P := l.prog) (w := w) (base := base) fr d24 d23 d26 d27 F38 (PySem.W.mg_of X G a38)
  have d39 := ok__law_few_values (P := l.prog) (w := w) (base := base) fr d17 F39 (PySem.W.mg_of X G a39)
  have d40 := ok__law_is_small (P := l.prog) (w := w) (base := base) fr F40 (PySem.W.mg_of X G a40)
  have d41 := ok__law_spoilt (P := l.prog) (w := w) (base := base) fr d24 d17 d28 d16 F41 (PySem.W.mg_of X G a41)
  have d42 := ok__law_is_energy_right (P := l.prog) (w := w) (base := base) fr d19 d25 d38 d39 d40 d18 d22 d17 d27 d11 F42 (PySem.W.mg_of X G a42)
  exact fk_law fr d19 d15 d34 d35 d42 d37 d41 d11 d14 d8 d13 t__law_told_by TB l43 c43
end P55

set_option Elab.async false
set_option maxRecDepth 100000
open PySem PySem.W PyProof.Rows
set_option maxHeartbeats 0 in
theorem PySem.Challenge.cw_onelate_k54_scales_and_energy_holds : PySem.Challenge.rw_onelate_k54_scales_and_energy.Holds := by
  w_on; o_law; k_head; (case hw => w_witness2)
  k_fill
  refine Zd.walk_valT "law.<locals>.<lambda>" (l := PySem.Challenge.rw_onelate_k54_scales_and_energy) (n := 63) (k := 10) (x := "_law_script") (G := P55.F_law) rfl (by decide) rfl ⟨⟨rfl, by decide, by decide⟩, rfl⟩ (by rfl) (fun w h Y => PySem.W.km_in_of Y) ?F (fun T ns h1 _ => P55.law_holds T ns h1)
  case F =>
    intro w mg fa h KX G hmg own
    refine' P55.all_mk KX G hmg ?a0 ?l0 ?c0 ?k0 ?a1 ?l1 ?c1 ?k1 ?a2 ?l2 ?c2 ?k2 ?a3 ?l3 ?c3 ?k3 ?a4 ?l4 ?c4 ?k4 ?a5 ?l5 ?c5 ?k5 ?a6 ?l6 ?c6 ?k6 ?a7 ?l7 ?c7 ?k7 ?a8 ?l8 ?c8 ?k8 ?a9 ?l9 ?c9 ?k9 ?a10 ?l10 ?c10 ?k10 ?a11 ?l11 ?c11 ?k11 ?a12 ?l12 ?c12 ?k12 ?a13 ?l13 ?c13 ?k13 ?a14 ?l14 ?c14 ?k14 ?a15 ?l15 ?c15 ?k15 ?a16 ?l16 ?c16 ?k16 ?a17 ?l17 ?c17 ?k17 ?a18 ?l18 ?c18 ?k18 ?a19 ?l19 ?c19 ?k19 ?a20 ?l20 ?c20 ?k20 ?a21 ?l21 ?c21 ?k21 ?a22 ?l22 ?c22 ?k22 ?a23 ?l23 ?c23 ?k23 ?a24 ?l24 ?c24 ?k24 ?a25 ?l25 ?c25 ?k25 ?a26 ?l26 ?c26 ?k26 ?a27 ?l27 ?c27 ?k27 ?a28 ?l28 ?c28 ?k28 ?a29 ?l29 ?c29 ?k29 ?a30 ?l30 ?c30 ?k30 ?a31 ?l31 ?c31 ?k31 ?a32 ?l32 ?c32 ?k32 ?a33 ?l33 ?c33 ?k33 ?a34 ?l34 ?c34 ?k34 ?a35 ?l35 ?c35 ?k35 ?a36 ?l36 ?c36 ?k36 ?a37 ?l37 ?c37 ?k37 ?a38 ?l38 ?c38 ?k38 ?a39 ?l39 ?c39 ?k39 ?a40 ?l40 ?c40 ?k40 ?a41 ?l41 ?c41 ?k41 ?a42 ?l42 ?c42 ?k42 ?a43 ?l43 ?c43 ?k43 ?zcONE ?zlONE ?ziONE ?zcZERO ?zlZERO ?ziZERO ?zg ?zabs ?zany ?zenumerate ?zint ?zlen ?zlist ?zmax ?zrange ?zrepr ?zsorted ?zsum ?ztuple ?zzip ?eaNotEven ?ebNotEven ?eiNotEven ?etNotEven ?ekNotEven ?exNotEven ?eaNotTold ?ebNotTold ?eiNotTold ?etNotTold ?eaLateError ?ebLateError ?eiLateError ?etLateError ?esNotEven_NotEven ?at_law_told_by ?lt_law_told_by ?ct_law_told_by ?kt_law_told_by ?tk ?tv ?tn ?th own
    (case a0 => k_is)
    (case l0 => k_is)
    (case c0 => k_is)
    (case k0 => k_is)
    (case a1 => k_is)
    (case l1 => k_is)
    (case c1 => k_is)
    (case k1 => k_is)
    (case a2 => k_is)
    (case l2 => k_is)
    (case c2 => k_is)
    (case k2 => k_is)
    (case a3 => k_is)
    (case l3 => k_is)
    (case c3 => k_is)
    (case k3 => k_is)
    (case a4 => k_is)
    (case l4 => k_is)
    (case c4 => k_is)
    (case k4 => k_is)
    (case a5 => k_is)
    (case l5 => k_is)
    (case c5 => k_is)
    (case k5 => k_is)
    (case a6 => k_is)
    (case l6 => k_is)
    (case c6 => k_is)
    (case k6 => k_is)
    (case a7 => k_is)
    (case l7 => k_is)
    (case c7 => k_is)
    (case k7 => k_is)
    (case a8 => k_is)
    (case l8 => k_is)
    (case c8 => k_is)
    (case k8 => k_is)
    (case a9 => k_is)
    (case l9 => k_is)
    (case c9 => k_is)
    (case k9 => k_is)
    (case a10 => k_is)
    (case l10 => k_is)
    (case c10 => k_is)
    (case k10 => k_is)
    (case a11 => k_is)
    (case l11 => k_is)
    (case c11 => k_is)
    (case k11 => k_is)
    (case a12 => k_is)
    (case l12 => k_is)
    (case c12 => k_is)
    (case k12 => k_is)
    (case a13 => k_is)
    (case l13 => k_is)
    (case c13 => k_is)
    (case k13 => k_is)
    (case a14 => k_is)
    (case l14 => k_is)
    (case c14 => k_is)
    (case k14 => k_is)
    (case a15 => k_is)
    (case l15 => k_is)
    (case c15 => k_is)
    (case k15 => k_is)
    (case a16 => k_is)
    (case l16 => k_is)
    (case c16 => k_is)
    (case k16 => k_is)
    (case a17 => k_is)
    (case l17 => k_is)
    (case c17 => k_is)
    (case k17 => k_is)
    (case a18 => k_is)
    (case l18 => k_is)
    (case c18 => k_is)
    (case k18 => k_is)
    (case a19 => k_is)
    (case l19 => k_is)
    (case c19 => k_is)
    (case k19 => k_is)
    (case a20 => k_is)
    (case l20 => k_is)
    (case c20 => k_is)
    (case k20 => k_is)
    (case a21 => k_is)
    (case l21 => k_is)
    (case c21 => k_is)
    (case k21 => k_is)
    (case a22 => k_is)
    (case l22 => k_is)
    (case c22 => k_is)
    (case k22 => k_is)
    (case a23 => k_is)
    (case l23 => k_is)
    (case c23 => k_is)
    (case k23 => k_is)
    (case a24 => k_is)
    (case l24 => k_is)
    (case c24 => k_is)
    (case k24 => k_is)
    (case a25 => k_is)
    (case l25 => k_is)
    (case c25 => k_is)
    (case k25 => k_is)
    (case a26 => k_is)
    (case l26 => k_is)
    (case c26 => k_is)
    (case k26 => k_is)
    (case a27 => k_is)
    (case l27 => k_is)
    (case c27 => k_is)
    (case k27 => k_is)
    (case a28 => k_is)
    (case l28 => k_is)
    (case c28 => k_is)
    (case k28 => k_is)
    (case a29 => k_is)
    (case l29 => k_is)
    (case c29 => k_is)
    (case k29 => k_is)
    (case a30 => k_is)
    (case l30 => k_is)
    (case c30 => k_is)
    (case k30 => k_is)
    (case a31 => k_is)
    (case l31 => k_is)
    (case c31 => k_is)
    (case k31 => k_is)
    (case a32 => k_is)
    (case l32 => k_is)
    (case c32 => k_is)
    (case k32 => k_is)
    (case a33 => k_is)
    (case l33 => k_is)
    (case c33 => k_is)
    (case k33 => k_is)
    (case a34 => k_is)
    (case l34 => k_is)
    (case c34 => k_is)
    (case k34 => k_is)
    (case a35 => k_is)
    (case l35 => k_is)
    (case c35 => k_is)
    (case k35 => k_is)
    (case a36 => k_is)
    (case l36 => k_is)
    (case c36 => k_is)
    (case k36 => k_is)
    (case a37 => k_is)
    (case l37 => k_is)
    (case c37 => k_is)
    (case k37 => k_is)
    (case a38 => k_is)
    (case l38 => k_is)
    (case c38 => k_is)
    (case k38 => k_is)
    (case a39 => k_is)
    (case l39 => k_is)
    (case c39 => k_is)
    (case k39 => k_is)
    (case a40 => k_is)
    (case l40 => k_is)
    (case c40 => k_is)
    (case k40 => k_is)
    (case a41 => k_is)
    (case l41 => k_is)
    (case c41 => k_is)
    (case k41 => k_is)
    (case a42 => k_is)
    (case l42 => k_is)
    (case c42 => k_is)
    (case k42 => k_is)
    (case a43 => k_is)
    (case l43 => k_is)
    (case c43 => k_is)
    (case k43 => k_is)
    (case zcONE => k_is)
    (case zlONE => k_is)
    (case ziONE => rfl)
    (case zcZERO => k_is)
    (case zlZERO => k_is)
    (case ziZERO => rfl)
    (case zg => k_is)
    (case zabs => k_is)
    (case zany => k_is)
    (case zenumerate => k_is)
    (case zint => k_is)
    (case zlen => k_is)
    (case zlist => k_is)
    (case zmax => k_is)
    (case zrange => k_is)
    (case zrepr => k_is)
    (case zsorted => k_is)
    (case zsum => k_is)
    (case ztuple => k_is)
    (case zzip => k_is)
    (case eaNotEven => k_is)
    (case ebNotEven => k_is)
    (case eiNotEven => k_is)
    (case etNotEven => k_is)
    (case ekNotEven => k_is)
    (case exNotEven => k_exc)
    (case eaNotTold => k_is)
    (case ebNotTold => k_is)
    (case eiNotTold => k_is)
    (case etNotTold => k_is)
    (case eaLateError => k_is)
    (case ebLateError => k_is)
    (case eiLateError => k_is)
    (case etLateError => k_is)
    (case esNotEven_NotEven => first | k_is | rfl)
    (case at_law_told_by => k_is)
    (case lt_law_told_by => k_is)
    (case ct_law_told_by => k_is)
    (case kt_law_told_by => k_is)
    (case tk => k_is)
    (case tv => rfl)
    (case tn => first | k_is | rfl)
    (case th => first | k_is | rfl)
