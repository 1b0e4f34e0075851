import PyProof.Rows.All
import Wide.All
import OpenK.AllK
import Wide.FinOn
import HandS.ForMost
import HandS.Evl
import HandS.Exc
import HandS.TryOnly
import HandS.ExcOwn
import HandS.WordsExc
import HandS.Deep
import HandS.IsInst
import KE.KDictKeyed
import HandS.TupSets
import HandS.TupAny
import HandS.TupMul
import HandS.HotCalls
import HandS.ExcInit
import HandS.ExcIs
import HandS.ExcField
import HandS.Property
import KE.KExcIs
import HandS.Head0
import HandS.Head1
import HandS.Head2
import HandS.HeadEnd
import HandS.HeadHook1
import HandS.HeadHook2
import HandS.HeadHook3
import HandS.HeadHook4
import HandS.HeadNt
import HandS.Zip
import HandS.Dict
import HandS.More
import HandS.DictComp
import HandS.Rev
import PyProof.Rows.CountFlat
import KE.GoesMore
import PyProof.EnumMake
import PyProof.Draws
import HandS.TupLe
import HandS.SetKeys
import PySem.Challenge.RW_lookvoice_k48_errors
set_option Elab.async false
set_option linter.all false
set_option maxRecDepth 100000
set_option maxHeartbeats 8000000
/-! Lv: data as trees over the layer's heap -/
namespace Lv
open PySem L2
open Evl (Ex)

/-- data as a tree; any v: exactly the value v -/
inductive D where
  | non | bl (b : Bool) | int (i : Int) | str (s : Str)
  | tup (xs : List D) | lst (xs : List D)
  | obj (C : Addr) (fs : List (Str × D))
  | scr (ns : List Int)
  | xdc (fs : List (Str × D))
  | dik (es : List (L2.Key × D))
  | dit (es : List (List L2.Key × D))
  | dix (w : World) (es : List (D × D))
  | sit (w : World) (ds : List D)
  | any (v : V)

mutual
/-- data as a dict's key -/
def keyN : D → Option NestedKey
  | .non => some .none
  | .int i => some (.num i)
  | .str s => some (.text s)
  | .tup xs => (keysN xs).map NestedKey.tup
  | _ => none
def keysN : List D → Option (List NestedKey)
  | [] => some []
  | d :: ds => match keyN d, keysN ds with
    | some k, some ks => some (k :: ks)
    | _, _ => none
end
/-- at a stands a dict with these entries -/
def dxP (a : Addr) (w : World) (xs : List (NestedKey × Addr × Value)) : Heap → Prop := fun h => (a == sysModules) = false ∧ xs.length ≤ sizeLine ∧ (xs.map (·.1)).Nodup ∧ (∀ x ∈ xs, x.1.depth ≤ 8) ∧ ∃ o es ep, h.get? a = some o ∧ o.ExactDict ∧ o.data = .dict es ep ∧ es.toList = xs.map fun x => (⟨x.1.hash w, .ref x.2.1, x.2.2⟩ : DictEntry)
def DxK (xs : List (NestedKey × Addr × Value)) (us : List V) (ds : List (D × D)) : Prop := Vals us (xs.map (·.2.2)) ∧ keysN (ds.map Prod.fst) = some (xs.map (·.1))
/-- at a stands a set of tuples of ints -/
def stP (a : Addr) (w : World) (L : List (Addr × List Int)) : Heap → Prop := fun h => ∀ P : Program, SetT0 P w h a L
/-- at a stands a tuple that is tracked, or an empty one -/
def TpH (K : PySem.W.Frag) (G : Hp) (a : Addr) (vs : List V) : Prop := G a = some (.tup vs) ∨ (vs = [] ∧ SqT K G a [])
theorem TpH.sq {K : PySem.W.Frag} {G : Hp} {a : Addr} {vs : List V} (h : TpH K G a vs) : SqT K G a vs := by
  rcases h with h | ⟨rfl, h⟩
  · exact .inl (.inl h)
  · exact h
theorem TpH.mono {K : PySem.W.Frag} {G G2 : Hp} {a : Addr} {vs : List V} (h : TpH K G a vs) (x : Ex G G2) : TpH K G2 a vs := by
  rcases h with h | ⟨rfl, h⟩
  · exact .inl (x _ _ h)
  · exact .inr ⟨rfl, Evl.ex_t x h⟩
abbrev Ro := List (Option D)
abbrev Cs := List (Addr × D)

mutual
/-- in the heap G the value v is the data d -/
inductive Rep (K : PySem.W.Frag) (G : Hp) : V → D → Prop
  | non : Rep K G .non .non
  | bl (b : Bool) : Rep K G (.bl b) (.bl b)
  | int (i : Int) : Rep K G (.int i) (.int i)
  | str (s : Str) : Rep K G (.str s) (.str s)
  | tup {a : Addr} {vs : List V} {ds : List D} : TpH K G a vs → RepL K G vs ds → Rep K G (.ref a) (.tup ds)
  | lst {a : Addr} {vs : List V} {ds : List D} : G a = some (.lst vs) → RepL K G vs ds → Rep K G (.ref a) (.lst ds)
  | scr {a : Addr} {ns : List Int} : SqL K G a (ns.map V.int) → Rep K G (.ref a) (.scr ns)
  | obj {a C dx : Addr} {vs : List (Str × V)} {fs : List (Str × D)} : G a = some (.ins C dx vs) → RepF K G vs fs → Rep K G (.ref a) (.obj C fs)
  | dik {a : Addr} {vs : List (L2.Key × V)} {ds : List (L2.Key × D)} : G a = some (.dK vs) → vs.map Prod.fst = ds.map Prod.fst → RepL K G (vs.map Prod.snd) (ds.map Prod.snd) → Rep K G (.ref a) (.dik ds)
  | dit {a : Addr} {vs : List (List L2.Key × V)} {ds : List (List L2.Key × D)} : G a = some (.dT vs) → vs.map Prod.fst = ds.map Prod.fst → RepL K G (vs.map Prod.snd) (ds.map Prod.snd) → Rep K G (.ref a) (.dit ds)
  | dix {a : Addr} {w : World} {xs : List (NestedKey × Addr × Value)} {us : List V} {ds : List (D × D)} : G a = some (.ext (dxP a w xs)) → DxK xs us ds → RepL K G (xs.map fun x => V.ref x.2.1) (ds.map Prod.fst) → RepL K G us (ds.map Prod.snd) → Rep K G (.ref a) (.dix w ds)
  | any (v : V) : Rep K G v (.any v)
inductive RepL (K : PySem.W.Frag) (G : Hp) : List V → List D → Prop
  | nil : RepL K G [] []
  | cons {v : V} {vs : List V} {d : D} {ds : List D} : Rep K G v d → RepL K G vs ds → RepL K G (v :: vs) (d :: ds)
inductive RepF (K : PySem.W.Frag) (G : Hp) : List (Str × V) → List (Str × D) → Prop
  | nil : RepF K G [] []
  | cons {f : Str} {v : V} {vs : List (Str × V)} {d : D} {ds : List (Str × D)} : Rep K G v d → RepF K G vs ds → RepF K G ((f, v) :: vs) ((f, d) :: ds)
end

section
variable {K : PySem.W.Frag} {G G2 H H2 H3 G3 : Hp}
mutual
theorem Rep.mono (x : Ex G G2) : ∀ {v : V} {d : D}, Rep K G v d → Rep K G2 v d
  | _, _, .non => .non
  | _, _, .bl b => .bl b
  | _, _, .int i => .int i
  | _, _, .str s => .str s
  | _, _, .tup h r => .tup (h.mono x) (RepL.mono x r)
  | _, _, .lst h r => .lst (x _ _ h) (RepL.mono x r)
  | _, _, .scr h => .scr (Evl.ex_l x h)
  | _, _, .obj h r => .obj (x _ _ h) (RepF.mono x r)
  | _, _, .dik h k r => .dik (x _ _ h) k (RepL.mono x r)
  | _, _, .dit h k r => .dit (x _ _ h) k (RepL.mono x r)
  | _, _, .dix h k r r2 => .dix (x _ _ h) k (RepL.mono x r) (RepL.mono x r2)
  | _, _, .any v => .any v
theorem RepL.mono (x : Ex G G2) : ∀ {vs : List V} {ds : List D}, RepL K G vs ds → RepL K G2 vs ds
  | _, _, .nil => .nil
  | _, _, .cons h r => .cons (Rep.mono x h) (RepL.mono x r)
theorem RepF.mono (x : Ex G G2) : ∀ {vs : List (Str × V)} {ds : List (Str × D)}, RepF K G vs ds → RepF K G2 vs ds
  | _, _, .nil => .nil
  | _, _, .cons h r => .cons (Rep.mono x h) (RepF.mono x r)
end
theorem RepL.length : ∀ {vs : List V} {ds : List D}, RepL K G vs ds → vs.length = ds.length
  | _, _, .nil => rfl
  | _, _, .cons _ r => by rw [List.length_cons, List.length_cons, RepL.length r]
theorem RepL.get : ∀ {vs : List V} {ds : List D} {i : Nat} {d : D}, RepL K G vs ds → ds[i]? = some d → ∃ v, vs[i]? = some v ∧ Rep K G v d
  | _, _, _, _, .nil, e => by simp at e
  | _, _, 0, _, .cons h _, e => by simp at e; subst e; exact ⟨_, rfl, h⟩
  | _, _, i + 1, d, .cons _ r, e => by
    obtain ⟨u, h1, h2⟩ := RepL.get (i := i) (d := d) r (by simpa using e)
    exact ⟨u, by simpa using h1, h2⟩
theorem RepL.getV : ∀ {vs : List V} {ds : List D} {i : Nat} {v : V}, RepL K G vs ds → vs[i]? = some v → ∃ d, ds[i]? = some d ∧ Rep K G v d
  | _, _, _, _, .nil, e => by simp at e
  | _, _, 0, _, .cons h _, e => by simp at e; subst e; exact ⟨_, rfl, h⟩
  | _, _, i + 1, d, .cons _ r, e => by
    obtain ⟨u, h1, h2⟩ := RepL.getV (i := i) (v := d) r (by simpa using e)
    exact ⟨u, by simpa using h1, h2⟩
theorem RepL.append : ∀ {vs us : List V} {ds es : List D}, RepL K G vs ds → RepL K G us es → RepL K G (vs ++ us) (ds ++ es)
  | _, _, _, _, .nil, s => s
  | _, _, _, _, .cons h r, s => .cons h (RepL.append r s)
theorem RepL.one {v : V} {d : D} (h : Rep K G v d) : RepL K G [v] [d] := .cons h .nil
theorem RepL.take : ∀ {vs : List V} {ds : List D} (n : Nat), RepL K G vs ds → RepL K G (vs.take n) (ds.take n)
  | _, _, 0, _ => by simp; exact .nil
  | _, _, _ + 1, .nil => by simp; exact .nil
  | _, _, n + 1, .cons h r => .cons h (RepL.take n r)
theorem RepL.drop : ∀ {vs : List V} {ds : List D} (n : Nat), RepL K G vs ds → RepL K G (vs.drop n) (ds.drop n)
  | _, _, 0, r => r
  | _, _, _ + 1, .nil => by simp; exact .nil
  | _, _, n + 1, .cons _ r => RepL.drop n r
theorem RepL.set {v : V} {d : D} (h : Rep K G v d) : ∀ {vs : List V} {ds : List D} (i : Nat), RepL K G vs ds → RepL K G (vs.set i v) (ds.set i d)
  | _, _, _, .nil => .nil
  | _, _, 0, .cons _ t => .cons h t
  | _, _, i + 1, .cons q t => .cons q (RepL.set h i t)
theorem RepL.eraseIdx : ∀ {vs : List V} {ds : List D} (i : Nat), RepL K G vs ds → RepL K G (vs.eraseIdx i) (ds.eraseIdx i)
  | _, _, _, .nil => .nil
  | _, _, 0, .cons _ t => t
  | _, _, i + 1, .cons q t => .cons q (RepL.eraseIdx i t)
theorem RepL.reverse : ∀ {vs : List V} {ds : List D}, RepL K G vs ds → RepL K G vs.reverse ds.reverse
  | _, _, .nil => .nil
  | _, _, .cons h r => by
    rw [List.reverse_cons, List.reverse_cons]
    exact (RepL.reverse r).append (.one h)
theorem RepF.lookup : ∀ {vs : List (Str × V)} {ds : List (Str × D)} {f : Str} {d : D}, RepF K G vs ds → ds.lookup f = some d → ∃ v, vs.lookup f = some v ∧ Rep K G v d
  | _, _, _, _, .nil, e => by cases e
  | _, _, f, d, .cons (f := g) h r, e => by
    rw [List.lookup_cons] at e ⊢
    cases hg : f == g with
    | true =>
      rw [hg] at e
      cases e
      exact ⟨_, rfl, h⟩
    | false =>
      rw [hg] at e
      exact RepF.lookup r e
theorem RepF.lookup_none : ∀ {vs : List (Str × V)} {ds : List (Str × D)} {f : Str}, RepF K G vs ds → ds.lookup f = none → vs.lookup f = none
  | _, _, _, .nil, e => rfl
  | _, _, f, .cons (f := g) h r, e => by
    rw [List.lookup_cons] at e ⊢
    cases hg : f == g with
    | true =>
      rw [hg] at e
      cases e
    | false =>
      rw [hg] at e
      exact RepF.lookup_none r e
theorem RepF.length : ∀ {vs : List (Str × V)} {ds : List (Str × D)}, RepF K G vs ds → vs.length = ds.length
  | _, _, .nil => rfl
  | _, _, .cons _ r => by rw [List.length_cons, List.length_cons, RepF.length r]
def putD (f : Str) (d : D) : List (Str × D) → List (Str × D)
  | [] => [(f, d)]
  | (g, x) :: r => if g = f then (g, d) :: r else (g, x) :: putD f d r

/-! ### from a state to the next -/
structure Nx (G H G2 H2 : Hp) : Prop where
  g : Ex G G2
  h : Ex H H2
  s : Ex G2 H2
  f : ∀ a o, G2 a = some o → G a = none → H a = none
theorem Nx.refl (s : Ex G H) : Nx G H G H := ⟨Ex.refl _, Ex.refl _, s, fun a o h n => by rw [h] at n; cases n⟩
theorem Nx.trans (a : Nx G H G2 H2) (b : Nx G2 H2 G3 H3) : Nx G H G3 H3 := ⟨a.g.trans b.g, a.h.trans b.h, b.s, fun x o e n => by
  cases h : G2 x with
  | none => exact Evl.fresh_back a.h (b.f x o e h)
  | some u => exact a.f x u h n⟩
/-- the heap alone grew -/
theorem Nx.grow (s : Ex G H) (e : Ex H H2) : Nx G H G H2 := ⟨Ex.refl _, e, s.trans e, fun a o h n => by rw [h] at n; cases n⟩
/-- a new pure object -/
theorem Nx.new {p : Addr} {o : HO} (s : Ex G H) (hp : H p = none) : Nx G H (upd G p o) (upd H p o) := by
  have gp : G p = none := Evl.fresh_back s hp
  refine ⟨Ex.new gp, Ex.new hp, fun a u e => ?_, fun a u e n => ?_⟩
  · by_cases h : a = p
    · subst h; rw [upd_same] at e ⊢; exact e
    · rw [upd_ne h] at e ⊢; exact s a u e
  · by_cases h : a = p
    · subst h; exact hp
    · rw [upd_ne h] at e; rw [e] at n; cases n
/-- a new object that is no pure one -/
theorem Nx.newc {p : Addr} {o : HO} (s : Ex G H) (hp : H p = none) : Nx G H G (upd H p o) := Nx.grow s (Ex.new hp)
/-- an object that stands in H alone becomes pure -/
theorem Nx.take {p : Addr} {o : HO} (n : Nx G H G2 H2) (hp : H p = none) (h2 : H2 p = some o) (g2 : G2 p = none) : Nx G H (upd G2 p o) H2 := by
  refine ⟨n.g.trans (Ex.new g2), n.h, fun a u e => ?_, fun a u e z => ?_⟩
  · by_cases h : a = p
    · subst h; rw [upd_same] at e; rw [h2]; exact e
    · rw [upd_ne h] at e; exact n.s a u e
  · by_cases h : a = p
    · subst h; exact hp
    · rw [upd_ne h] at e; exact n.f a u e z

/-! ### cells: what may change -/
def Cell (K : PySem.W.Frag) (G H : Hp) (a : Addr) : D → Prop
  | .lst ds => ∃ vs, H a = some (.lst vs) ∧ RepL K G vs ds
  | .obj C fs => ∃ dx vs, H a = some (.ins C dx vs) ∧ RepF K G vs fs
  | .xdc fs => ∃ vs, H a = some (.xd vs) ∧ RepF K G vs fs
  | .dik ds => ∃ vs, H a = some (.dK vs) ∧ vs.map Prod.fst = ds.map Prod.fst ∧ RepL K G (vs.map Prod.snd) (ds.map Prod.snd)
  | .dit ds => ∃ vs, H a = some (.dT vs) ∧ vs.map Prod.fst = ds.map Prod.fst ∧ RepL K G (vs.map Prod.snd) (ds.map Prod.snd)
  | .dix w ds => ∃ xs us, H a = some (.ext (dxP a w xs)) ∧ DxK xs us ds ∧ RepL K G (xs.map fun x => V.ref x.2.1) (ds.map Prod.fst) ∧ RepL K G us (ds.map Prod.snd)
  | .sit w ds => ∃ L, H a = some (.ext (stP a w L)) ∧ (∀ x, x ∈ ds ↔ x ∈ L.map fun p => D.tup (p.2.map D.int)) ∧ L.length ≤ ds.length ∧ RepL K G (L.map fun p => V.ref p.1) (L.map fun p => D.tup (p.2.map D.int))
  | _ => False
theorem Cell.mono {a : Addr} {d : D} (g : Ex G G2) (h : Ex H H2) (c : Cell K G H a d) : Cell K G2 H2 a d := by
  cases d with
  | lst ds => obtain ⟨vs, e, r⟩ := c; exact ⟨vs, h _ _ e, r.mono g⟩
  | obj C fs => obtain ⟨dx, vs, e, r⟩ := c; exact ⟨dx, vs, h _ _ e, r.mono g⟩
  | xdc fs => obtain ⟨vs, e, r⟩ := c; exact ⟨vs, h _ _ e, r.mono g⟩
  | dik ds => obtain ⟨vs, e, k, r⟩ := c; exact ⟨vs, h _ _ e, k, r.mono g⟩
  | dit ds => obtain ⟨vs, e, k, r⟩ := c; exact ⟨vs, h _ _ e, k, r.mono g⟩
  | dix w ds => obtain ⟨xs, us, e, k, r, r2⟩ := c; exact ⟨xs, us, h _ _ e, k, r.mono g, r2.mono g⟩
  | sit w ds => obtain ⟨xs, e, k, l, r⟩ := c; exact ⟨xs, h _ _ e, k, l, r.mono g⟩
  | _ => exact c.elim
theorem Cell.some {a : Addr} {d : D} (c : Cell K G H a d) : ∃ o, H a = some o := by
  cases d with
  | lst ds => obtain ⟨vs, e, r⟩ := c; exact ⟨_, e⟩
  | obj C fs => obtain ⟨dx, vs, e, r⟩ := c; exact ⟨_, e⟩
  | xdc fs => obtain ⟨vs, e, r⟩ := c; exact ⟨_, e⟩
  | dik ds => obtain ⟨vs, e, k, r⟩ := c; exact ⟨_, e⟩
  | dit ds => obtain ⟨vs, e, k, r⟩ := c; exact ⟨_, e⟩
  | dix w ds => obtain ⟨xs, us, e, k, r, r2⟩ := c; exact ⟨_, e⟩
  | sit w ds => obtain ⟨xs, e, k, l, r⟩ := c; exact ⟨_, e⟩
  | _ => exact c.elim
structure Wl (K : PySem.W.Frag) (G H : Hp) (cs : Cs) : Prop where
  sub : Ex G H
  cell : ∀ c ∈ cs, G c.1 = none ∧ Cell K G H c.1 c.2
  nd : (cs.map (·.1)).Nodup
theorem Wl.step {cs : Cs} (w : Wl K G H cs) (n : Nx G H G2 H2) : Wl K G2 H2 cs := by
  refine ⟨n.s, fun c hc => ?_, w.nd⟩
  obtain ⟨g, k⟩ := w.cell c hc
  refine ⟨?_, k.mono n.g n.h⟩
  cases e : G2 c.1 with
  | none => rfl
  | some o =>
    obtain ⟨u, hu⟩ := k.some
    rw [n.f _ _ e g] at hu
    cases hu
/-- readable as d now: pure, or a cell -/
def RepC (K : PySem.W.Frag) (G : Hp) (cs : Cs) (v : V) (d : D) : Prop := Rep K G v d ∨ ∃ a, v = .ref a ∧ (a, d) ∈ cs
theorem RepC.mono {cs : Cs} {v : V} {d : D} (n : Nx G H G2 H2) (r : RepC K G cs v d) : RepC K G2 cs v d := by
  rcases r with r | r
  · exact .inl (r.mono n.g)
  · exact .inr r
theorem RepC.seqL {cs : Cs} {v : V} {ds : List D} (w : Wl K G H cs) (r : RepC K G cs v (.lst ds)) : ∃ a vs, v = .ref a ∧ H a = some (.lst vs) ∧ RepL K G vs ds := by
  rcases r with r | ⟨a, e, c⟩
  · cases r with
    | lst h r => exact ⟨_, _, rfl, w.sub _ _ h, r⟩
  · obtain ⟨_, vs, e2, r⟩ := w.cell _ c
    exact ⟨a, vs, e, e2, r⟩
theorem RepC.seqT {cs : Cs} {v : V} {ds : List D} (w : Wl K G H cs) (r : RepC K G cs v (.tup ds)) : ∃ a vs, v = .ref a ∧ SqT K H a vs ∧ RepL K G vs ds := by
  rcases r with r | ⟨a, e, c⟩
  · cases r with
    | tup h r => exact ⟨_, _, rfl, Evl.ex_t w.sub h.sq, r⟩
  · exact (w.cell _ c).2.elim
theorem RepC.int {cs : Cs} {v : V} {i : Int} (w : Wl K G H cs) (r : RepC K G cs v (.int i)) : v = .int i := by
  rcases r with r | ⟨a, e, c⟩
  · cases r; rfl
  · exact (w.cell _ c).2.elim
theorem RepC.bl {cs : Cs} {v : V} {b : Bool} (w : Wl K G H cs) (r : RepC K G cs v (.bl b)) : v = .bl b := by
  rcases r with r | ⟨a, e, c⟩
  · cases r; rfl
  · exact (w.cell _ c).2.elim
theorem RepC.str {cs : Cs} {v : V} {s : Str} (w : Wl K G H cs) (r : RepC K G cs v (.str s)) : v = .str s := by
  rcases r with r | ⟨a, e, c⟩
  · cases r; rfl
  · exact (w.cell _ c).2.elim
theorem RepC.non {cs : Cs} {v : V} (w : Wl K G H cs) (r : RepC K G cs v .non) : v = .non := by
  rcases r with r | ⟨a, e, c⟩
  · cases r; rfl
  · exact (w.cell _ c).2.elim
theorem RepC.objC {cs : Cs} {v : V} {C : Addr} {fs : List (Str × D)} (w : Wl K G H cs) (r : RepC K G cs v (.obj C fs)) : ∃ a dx vs, v = .ref a ∧ H a = some (.ins C dx vs) ∧ RepF K G vs fs := by
  rcases r with r | ⟨a, e, c⟩
  · cases r with
    | obj h r => exact ⟨_, _, _, rfl, w.sub _ _ h, r⟩
  · obtain ⟨_, dx, vs, e2, r⟩ := w.cell _ c
    exact ⟨a, dx, vs, e, e2, r⟩

/-! ### slots -/
structure Env (K : PySem.W.Frag) (G : Hp) (σ : L2.St) (ρ : Ro) : Prop where
  len : σ.length = ρ.length
  at_ : ∀ (i : Nat) (d : D), ρ[i]? = some (some d) → ∃ v, σ[i]? = some (some v) ∧ Rep K G v d
theorem Env.mono {σ : L2.St} {ρ : Ro} (x : Ex G G2) (e : Env K G σ ρ) : Env K G2 σ ρ := ⟨e.len, fun i d h => by
  obtain ⟨v, h1, h2⟩ := e.at_ i d h
  exact ⟨v, h1, h2.mono x⟩⟩
theorem Env.set {σ : L2.St} {ρ : Ro} {v : V} {d : D} (e : Env K G σ ρ) (i : Nat) (r : Rep K G v d) : Env K G (σ.set i (some v)) (ρ.set i (some d)) := ⟨by rw [List.length_set, List.length_set, e.len], fun j x h => by
  by_cases hj : i = j
  · subst hj
    by_cases hl : i < ρ.length
    · rw [List.getElem?_set_self hl] at h
      cases h
      exact ⟨v, List.getElem?_set_self (by rw [e.len]; exact hl), r⟩
    · rw [List.getElem?_eq_none (by rw [List.length_set]; omega)] at h
      cases h
  · rw [List.getElem?_set_ne hj] at h ⊢
    exact e.at_ j x h⟩
theorem Env.setN {σ : L2.St} {ρ : Ro} {v : Option V} (e : Env K G σ ρ) (i : Nat) : Env K G (σ.set i v) (ρ.set i none) := ⟨by rw [List.length_set, List.length_set, e.len], fun j x h => by
  by_cases hj : i = j
  · subst hj
    by_cases hl : i < ρ.length
    · rw [List.getElem?_set_self hl] at h
      cases h
    · rw [List.getElem?_eq_none (by rw [List.length_set]; omega)] at h
      cases h
  · rw [List.getElem?_set_ne hj] at h ⊢
    exact e.at_ j x h⟩
def wipeD (ρ : Ro) : List Nat → Ro
  | [] => ρ
  | v :: vs => (wipeD ρ vs).set v none
theorem Env.wipe {σ : L2.St} {ρ : Ro} (e : Env K G σ ρ) : ∀ vs : List Nat, Env K G (wipe σ vs) (wipeD ρ vs)
  | [] => e
  | v :: vs => (Env.wipe e vs).setN v
/-- ρ tells no more than ρ2 -/
def le : Ro → Ro → Prop
  | [], [] => True
  | none :: r, _ :: s => le r s
  | some d :: r, x :: s => x = some d ∧ le r s
  | _, _ => False
theorem le.length : ∀ {r s : Ro}, le r s → r.length = s.length
  | [], [], _ => rfl
  | none :: r, _ :: s, h => by rw [List.length_cons, List.length_cons, le.length (r := r) (s := s) h]
  | some d :: r, x :: s, h => by rw [List.length_cons, List.length_cons, le.length (r := r) (s := s) h.2]
  | [], _ :: _, h => h.elim
  | none :: _, [], h => h.elim
  | some _ :: _, [], h => h.elim
theorem le.get : ∀ {r s : Ro} {i : Nat} {d : D}, le r s → r[i]? = some (some d) → s[i]? = some (some d)
  | [], [], _, _, _, e => by simp at e
  | none :: r, _ :: s, 0, d, h, e => by simp at e
  | none :: r, _ :: s, i + 1, d, h, e => by
    rw [List.getElem?_cons_succ] at e ⊢
    exact le.get (r := r) (s := s) h e
  | some x :: r, y :: s, 0, d, h, e => by
    rw [List.getElem?_cons_zero] at e ⊢
    rw [h.1]; exact e
  | some x :: r, y :: s, i + 1, d, h, e => by
    rw [List.getElem?_cons_succ] at e ⊢
    exact le.get (r := r) (s := s) h.2 e
  | [], _ :: _, _, _, h, _ => h.elim
  | none :: _, [], _, _, h, _ => h.elim
  | some _ :: _, [], _, _, h, _ => h.elim
theorem le.refl : ∀ r : Ro, le r r
  | [] => trivial
  | none :: r => le.refl r
  | some _ :: r => ⟨rfl, le.refl r⟩
theorem Env.le {σ : L2.St} {ρ ρ2 : Ro} (e : Env K G σ ρ2) (h : le ρ ρ2) : Env K G σ ρ := ⟨e.len.trans h.length.symm, fun i d q => e.at_ i d (h.get q)⟩

/-! ### what evaluates to what -/
def sc : V → D
  | .non => .non
  | .bl b => .bl b
  | .int i => .int i
  | .str s => .str s
  | v => .any v
theorem rep_sc (v : V) : Rep K G v (sc v) := by
  cases v <;> first | exact .non | exact .bl _ | exact .int _ | exact .str _ | exact .any _
def Ev (K : PySem.W.Frag) (te : TE) (ρ : Ro) (cs : Cs) (d : D) : Prop := ∀ G H σ, Wl K G H cs → Env K G σ ρ → ∀ Q : VK, (∀ v G2 H2, Nx G H G2 H2 → Rep K G2 v d → Q v H2) → te σ H Q
def EvR (K : PySem.W.Frag) (te : TE) (ρ : Ro) (cs : Cs) (d : D) : Prop := ∀ G H σ, Wl K G H cs → Env K G σ ρ → ∀ Q : VK, (∀ v G2 H2, Nx G H G2 H2 → RepC K G2 cs v d → Q v H2) → te σ H Q
/-- a new list -/
def EvN (K : PySem.W.Frag) (te : TE) (ρ : Ro) (cs : Cs) (ds : List D) : Prop := ∀ G H σ, Wl K G H cs → Env K G σ ρ → ∀ Q : VK, (∀ p vs G2 H2, Nx G H G2 H2 → H p = none → G2 p = none → H2 p = some (.lst vs) → RepL K G2 vs ds → Q (.ref p) H2) → te σ H Q
def EvT (K : PySem.W.Frag) (tt : TT) (ρ : Ro) (cs : Cs) (b : Bool) : Prop := ∀ G H σ, Wl K G H cs → Env K G σ ρ → ∀ Q : Bool → Hp → Prop, (∀ G2 H2, Nx G H G2 H2 → Q b H2) → tt σ H Q
def EvA (K : PySem.W.Frag) (ta : TA) (ρ : Ro) (cs : Cs) (ds : List D) : Prop := ∀ G H σ, Wl K G H cs → Env K G σ ρ → ∀ Q : List V → Hp → Prop, (∀ vs G2 H2, Nx G H G2 H2 → RepL K G2 vs ds → Q vs H2) → ta σ H Q
/-- arguments that are readable -/
inductive RepCL (K : PySem.W.Frag) (G : Hp) (cs : Cs) : List V → List D → Prop
  | nil : RepCL K G cs [] []
  | cons {v : V} {vs : List V} {d : D} {ds : List D} : RepC K G cs v d → RepCL K G cs vs ds → RepCL K G cs (v :: vs) (d :: ds)
theorem RepCL.mono {cs : Cs} (n : Nx G H G2 H2) : ∀ {vs : List V} {ds : List D}, RepCL K G cs vs ds → RepCL K G2 cs vs ds
  | _, _, .nil => .nil
  | _, _, .cons h r => .cons (h.mono n) (RepCL.mono n r)
def EvAR (K : PySem.W.Frag) (ta : TA) (ρ : Ro) (cs : Cs) (ds : List D) : Prop := ∀ G H σ, Wl K G H cs → Env K G σ ρ → ∀ Q : List V → Hp → Prop, (∀ vs G2 H2, Nx G H G2 H2 → RepCL K G2 cs vs ds → Q vs H2) → ta σ H Q
def EvO (K : PySem.W.Frag) (to : TO) (ρ : Ro) (cs : Cs) (o : Option Int) : Prop := ∀ G H σ, Wl K G H cs → Env K G σ ρ → ∀ Q : Option Int → Hp → Prop, (∀ G2 H2, Nx G H G2 H2 → Q o H2) → to σ H Q
end
end Lv

namespace Lv
open PySem L2
open Evl (Ex)
/-! ### data and the library's data -/
mutual
def toPy : D → PyData
  | .non => .none
  | .bl b => .bool b
  | .int i => .int i
  | .str s => .str s
  | .tup xs => .tuple (toPyL xs)
  | .lst xs => .list (toPyL xs)
  | .obj _ _ => .none
  | .scr _ => .none
  | .xdc _ => .none
  | .dik _ => .none
  | .dit _ => .none
  | .dix _ _ => .none
  | .sit _ _ => .none
  | .any _ => .none
def toPyL : List D → List PyData
  | [] => []
  | x :: xs => toPy x :: toPyL xs
end
mutual
def plD : D → Bool
  | .non => true
  | .bl _ => true
  | .int _ => true
  | .str s => PyData.strOk s
  | .tup xs => plL xs
  | .lst xs => plL xs
  | .obj _ _ => false
  | .scr _ => false
  | .xdc _ => false
  | .dik _ => false
  | .dit _ => false
  | .dix _ _ => false
  | .sit _ _ => false
  | .any _ => false
def plL : List D → Bool
  | [] => true
  | x :: xs => plD x && plL xs
end
mutual
def dpD : D → Nat
  | .tup xs => dpL xs + 1
  | .lst xs => dpL xs + 1
  | _ => 0
def dpL : List D → Nat
  | [] => 0
  | x :: xs => max (dpD x) (dpL xs)
end
/-- plain data of at most n floors -/
def ok (n : Nat) (d : D) : Bool := plD d && decide (dpD d ≤ n)
def okL (n : Nat) (ds : List D) : Bool := ds.all (ok n)
theorem plL_all : ∀ ds : List D, plL ds = ds.all plD
  | [] => by rw [plL]; rfl
  | d :: ds => by rw [plL, List.all_cons, plL_all ds]
theorem toPyL_map : ∀ ds : List D, toPyL ds = ds.map toPy
  | [] => by rw [toPyL]; rfl
  | d :: ds => by rw [toPyL, List.map_cons, toPyL_map ds]
theorem dpL_le {n : Nat} : ∀ {ds : List D}, dpL ds ≤ n ↔ ∀ d ∈ ds, dpD d ≤ n
  | [] => by rw [dpL]; simp
  | d :: ds => by
    rw [dpL, Nat.max_le, dpL_le (ds := ds)]
    simp
theorem okL_iff {n : Nat} {ds : List D} : okL n ds = true ↔ plL ds = true ∧ dpL ds ≤ n := by
  unfold okL ok
  rw [plL_all, dpL_le, List.all_eq_true, List.all_eq_true]
  constructor
  · intro h
    exact ⟨fun x hx => (Bool.and_eq_true_iff.mp (h x hx)).1, fun x hx => of_decide_eq_true (Bool.and_eq_true_iff.mp (h x hx)).2⟩
  · intro h x hx
    exact Bool.and_eq_true_iff.mpr ⟨h.1 x hx, decide_eq_true (h.2 x hx)⟩
theorem ok_lst {n : Nat} {ds : List D} : ok (n + 1) (.lst ds) = okL n ds := by
  rw [Bool.eq_iff_iff, okL_iff]
  unfold ok
  rw [plD, dpD, Bool.and_eq_true_iff]
  simp
theorem ok_tup {n : Nat} {ds : List D} : ok (n + 1) (.tup ds) = okL n ds := by
  rw [Bool.eq_iff_iff, okL_iff]
  unfold ok
  rw [plD, dpD, Bool.and_eq_true_iff]
  simp
theorem ok_int {n : Nat} {i : Int} : ok n (.int i) = true := by unfold ok; rw [plD, dpD] <;> simp
theorem ok_bl {n : Nat} {b : Bool} : ok n (.bl b) = true := by unfold ok; rw [plD, dpD] <;> simp
theorem ok_non {n : Nat} : ok n .non = true := by unfold ok; rw [plD, dpD] <;> simp
theorem ok_str {n : Nat} {s : Str} : ok n (.str s) = PyData.strOk s := by unfold ok; rw [plD, dpD] <;> simp
theorem okL_nil {n : Nat} : okL n [] = true := rfl
theorem okL_cons {n : Nat} {d : D} {ds : List D} : okL n (d :: ds) = (ok n d && okL n ds) := rfl
theorem okL_append {n : Nat} {ds es : List D} : okL n (ds ++ es) = (okL n ds && okL n es) := List.all_append
theorem okL_map {α : Type} {n : Nat} {f : α → D} {xs : List α} : okL n (xs.map f) = xs.all fun x => ok n (f x) := List.all_map
mutual
theorem depth_toPy : ∀ d : D, (toPy d).depth = dpD d
  | .non => by rw [toPy, dpD] <;> first | rfl | simp
  | .bl _ => by rw [toPy, dpD] <;> first | rfl | simp
  | .int _ => by rw [toPy, dpD] <;> first | rfl | simp
  | .str _ => by rw [toPy, dpD] <;> first | rfl | simp
  | .tup xs => by rw [toPy, dpD]; show PyData.depthAll (toPyL xs) + 1 = _; rw [depthL_toPy xs]
  | .lst xs => by rw [toPy, dpD]; show PyData.depthAll (toPyL xs) + 1 = _; rw [depthL_toPy xs]
  | .obj _ _ => by rw [toPy, dpD] <;> first | rfl | simp
  | .scr _ => by rw [toPy, dpD] <;> first | rfl | simp
  | .xdc _ => by rw [toPy, dpD] <;> first | rfl | simp
  | .dik _ => by rw [toPy, dpD] <;> first | rfl | simp
  | .dit _ => by rw [toPy, dpD] <;> first | rfl | simp
  | .dix _ _ => by rw [toPy, dpD] <;> first | rfl | simp
  | .sit _ _ => by rw [toPy, dpD] <;> first | rfl | simp
  | .any _ => by rw [toPy, dpD] <;> first | rfl | simp
theorem depthL_toPy : ∀ ds : List D, PyData.depthAll (toPyL ds) = dpL ds
  | [] => by rw [toPyL, dpL]; rfl
  | d :: ds => by rw [toPyL, dpL]; show max (toPy d).depth (PyData.depthAll (toPyL ds)) = _; rw [depth_toPy d, depthL_toPy ds]
end
mutual
theorem lay_toPy : ∀ d : D, plD d = true → (toPy d).canLay0 = true
  | .non, _ => by rw [toPy]; rfl
  | .bl _, _ => by rw [toPy]; rfl
  | .int _, _ => by rw [toPy]; rfl
  | .str s, h => by rw [toPy]; rw [plD] at h; exact h
  | .tup xs, h => by rw [toPy]; rw [plD] at h; exact layL_toPy xs h
  | .lst xs, h => by rw [toPy]; rw [plD] at h; exact layL_toPy xs h
  | .obj _ _, h => by rw [plD] at h; cases h
  | .scr _, h => by rw [plD] at h; cases h
  | .xdc _, h => by rw [plD] at h; cases h
  | .dik _, h => by rw [plD] at h; cases h
  | .dit _, h => by rw [plD] at h; cases h
  | .dix _ _, h => by rw [plD] at h; cases h
  | .sit _ _, h => by rw [plD] at h; cases h
  | .any _, h => by rw [plD] at h; cases h
theorem layL_toPy : ∀ ds : List D, plL ds = true → PyData.canLayAll0 (toPyL ds) = true
  | [], _ => by rw [toPyL]; rfl
  | d :: ds, h => by
    rw [plL, Bool.and_eq_true_iff] at h
    rw [toPyL]
    show ((toPy d).canLay0 && PyData.canLayAll0 (toPyL ds)) = true
    rw [lay_toPy d h.1, layL_toPy ds h.2]
    rfl
end
theorem shaped_of {n : Nat} {d : D} (hn : n ≤ 64) (h : ok n d = true) : SeqAt.shaped (toPy d) = true := by
  obtain ⟨h1, h2⟩ := Bool.and_eq_true_iff.mp h
  have h3 : dpD d ≤ n := of_decide_eq_true h2
  exact Bool.and_eq_true_iff.mpr ⟨lay_toPy d h1, decide_eq_true (by rw [depth_toPy]; omega)⟩
/-- == of data -/
def eqD (x y : D) : Bool := PyData.eqv (toPy x) (toPy y)
theorem eqD_int {i j : Int} : eqD (.int i) (.int j) = (i == j) := by unfold eqD; rw [toPy, toPy, PyData.eqv]
theorem eqD_str {i j : Str} : eqD (.str i) (.str j) = (i == j) := by unfold eqD; rw [toPy, toPy, PyData.eqv]
theorem eqD_bl {i j : Bool} : eqD (.bl i) (.bl j) = (i == j) := by unfold eqD; rw [toPy, toPy, PyData.eqv]
def eqL : List D → List D → Bool
  | [], [] => true
  | x :: xs, y :: ys => eqD x y && eqL xs ys
  | _, _ => false
theorem eqvAll_eqL : ∀ xs ys : List D, PyData.eqvAll (toPyL xs) (toPyL ys) = eqL xs ys
  | [], [] => by rw [toPyL, PyData.eqvAll]; rfl
  | [], y :: ys => by rw [toPyL, toPyL, PyData.eqvAll]; rfl
  | x :: xs, [] => by rw [toPyL, toPyL, PyData.eqvAll]; rfl
  | x :: xs, y :: ys => by rw [toPyL, toPyL, PyData.eqvAll, eqvAll_eqL xs ys]; rfl
theorem eqD_lst {xs ys : List D} : eqD (.lst xs) (.lst ys) = eqL xs ys := by unfold eqD; rw [toPy, toPy, PyData.eqv, eqvAll_eqL]
theorem eqD_tup {xs ys : List D} : eqD (.tup xs) (.tup ys) = eqL xs ys := by unfold eqD; rw [toPy, toPy, PyData.eqv, eqvAll_eqL]
/-- data of one kind: told apart by == -/
def Apart {α : Type} (f : α → D) : Prop := ∀ a b, eqD (f a) (f b) = true ↔ a = b
theorem Apart.dec {α : Type} [DecidableEq α] {f : α → D} (h : Apart f) (a b : α) : eqD (f a) (f b) = decide (a = b) := by
  rw [Bool.eq_iff_iff, h a b, decide_eq_true_iff]
theorem apart_int : Apart D.int := fun a b => by rw [eqD_int]; exact beq_iff_eq
theorem apart_str : Apart D.str := fun a b => by rw [eqD_str]; exact beq_iff_eq
theorem apart_bl : Apart D.bl := fun a b => by rw [eqD_bl]; exact beq_iff_eq
theorem Apart.list {α : Type} {f : α → D} (h : Apart f) : ∀ a b : List α, eqL (a.map f) (b.map f) = true ↔ a = b
  | [], [] => by simp [eqL]
  | [], _ :: _ => by simp [eqL]
  | _ :: _, [] => by simp [eqL]
  | x :: a, y :: b => by
    rw [List.map_cons, List.map_cons, eqL, Bool.and_eq_true_iff, h x y, Apart.list h a b]
    simp
theorem Apart.lst {α : Type} {f : α → D} (h : Apart f) : Apart fun a : List α => D.lst (a.map f) := fun a b => by rw [eqD_lst]; exact h.list a b
theorem Apart.tup {α : Type} {f : α → D} (h : Apart f) : Apart fun a : List α => D.tup (a.map f) := fun a b => by rw [eqD_tup]; exact h.list a b
theorem Apart.comp {α β : Type} {f : α → D} {g : β → α} (h : Apart f) (hg : ∀ a b, g a = g b → a = b) : Apart fun b => f (g b) := fun a b => by rw [h]; exact ⟨hg a b, fun e => by rw [e]⟩

section
variable {K : PySem.W.Frag} {G G2 H H2 H3 G3 : Hp}
mutual
theorem Rep.dp (s : Ex G H) : ∀ {v : V} {d : D}, Rep K G v d → plD d = true → Dp K H v (toPy d)
  | _, _, .non, _ => by rw [toPy]; exact .non
  | _, _, .bl b, _ => by rw [toPy]; exact .bl b
  | _, _, .int i, _ => by rw [toPy]; exact .int i
  | _, _, .str x, _ => by rw [toPy]; exact .str x
  | _, _, .tup h r, p => by rw [toPy]; rw [plD] at p; exact .tup (Evl.ex_t s h.sq) (RepL.dp s r p)
  | _, _, .lst h r, p => by rw [toPy]; rw [plD] at p; exact .lst (.inl (.inl (s _ _ h))) (RepL.dp s r p)
  | _, _, .obj h r, p => by rw [plD] at p; cases p
  | _, _, .scr h, p => by rw [plD] at p; cases p
  | _, _, .dik h _ r, p => by rw [plD] at p; cases p
  | _, _, .dit h _ r, p => by rw [plD] at p; cases p
  | _, _, .dix h _ r _, p => by rw [plD] at p; cases p
  | _, _, .any v, p => by rw [plD] at p; cases p
theorem RepL.dp (s : Ex G H) : ∀ {vs : List V} {ds : List D}, RepL K G vs ds → plL ds = true → DpAll K H vs (toPyL ds)
  | _, _, .nil, _ => by rw [toPyL]; exact .nil
  | _, _, .cons h r, p => by
    rw [plL, Bool.and_eq_true_iff] at p
    rw [toPyL]
    exact .cons (Rep.dp s h p.1) (RepL.dp s r p.2)
end
theorem RepC.dp {cs : Cs} {v : V} {d : D} (w : Wl K G H cs) (r : RepC K G cs v d) (p : plD d = true) : Dp K H v (toPy d) := by
  rcases r with r | ⟨a, rfl, c⟩
  · exact r.dp w.sub p
  · have c2 := (w.cell _ c).2
    cases d with
    | lst ds =>
      obtain ⟨vs, e, r⟩ := c2
      rw [toPy]
      rw [plD] at p
      exact .lst (.inl (.inl e)) (r.dp w.sub p)
    | obj C fs => rw [plD] at p; cases p
    | xdc fs => rw [plD] at p; cases p
    | dik fs => rw [plD] at p; cases p
    | dit fs => rw [plD] at p; cases p
    | dix w fs => rw [plD] at p; cases p
    | sit w fs => rw [plD] at p; cases p
    | _ => exact c2.elim
theorem ok_pl {n : Nat} {d : D} (h : ok n d = true) : plD d = true := (Bool.and_eq_true_iff.mp h).1

/-! ### structural rules -/
variable {ρ : Ro} {cs : Cs} {ta tb te tx : TE} {tt tu : TT} {d d' e x y z : D} {rr : R2}
theorem Ev.of (h : Ev K te ρ cs d) (e : d = d') : Ev K te ρ cs d' := e ▸ h
theorem EvT.of {b b' : Bool} (h : EvT K tt ρ cs b) (e : b = b') : EvT K tt ρ cs b' := e ▸ h
theorem EvN.of {ds ds' : List D} (h : EvN K te ρ cs ds) (e : ds = ds') : EvN K te ρ cs ds' := e ▸ h
theorem Ev.er (h : Ev K te ρ cs d) : EvR K te ρ cs d := fun G H σ w e Q q => h G H σ w e Q fun v G2 H2 n r => q v G2 H2 n (.inl r)
theorem EvN.ev {ds : List D} (h : EvN K te ρ cs ds) : Ev K te ρ cs (.lst ds) := fun G H σ w e Q q => h G H σ w e Q fun p vs G2 H2 n hp gp h2 r =>
  q (.ref p) _ H2 (n.take hp h2 gp) (.lst upd_same (r.mono (Ex.new gp)))
theorem EvN.er {ds : List D} (h : EvN K te ρ cs ds) : EvR K te ρ cs (.lst ds) := h.ev.er
theorem ev_var {i : Nat} (h : ρ[i]? = some (some d)) : Ev K (tVar i) ρ cs d := fun G H σ w e Q q => by
  obtain ⟨v, h1, h2⟩ := e.at_ i d h
  exact ⟨v, h1, q v G H (Nx.refl w.sub) h2⟩
theorem er_cell {i : Nat} {a : Addr} (h : ρ[i]? = some (some (.any (.ref a)))) (hc : (a, d) ∈ cs) : EvR K (tVar i) ρ cs d := fun G H σ w e Q q => by
  obtain ⟨v, h1, h2⟩ := e.at_ i _ h
  cases h2
  exact ⟨_, h1, q _ G H (Nx.refl w.sub) (.inr ⟨a, rfl, hc⟩)⟩
theorem ev_c {v : V} : Ev K (tC v) ρ cs (sc v) := fun G H σ w e Q q => q v G H (Nx.refl w.sub) (rep_sc v)
theorem ev_cint {i : Int} : Ev K (tC (.int i)) ρ cs (.int i) := ev_c
theorem ev_cstr {s : Str} : Ev K (tC (.str s)) ρ cs (.str s) := ev_c
theorem ev_cbl {b : Bool} : Ev K (tC (.bl b)) ρ cs (.bl b) := ev_c
theorem ev_cnon : Ev K (tC .non) ρ cs .non := ev_c
def OpD (K : PySem.W.Frag) (r : R2) (cs : Cs) (x y z : D) : Prop := ∀ G H vx vy, Wl K G H cs → RepC K G cs vx x → RepC K G cs vy y → ∀ Q : VK, (∀ v G2 H2, Nx G H G2 H2 → Rep K G2 v z → Q v H2) → r vx vy H Q
def OpN (K : PySem.W.Frag) (r : R2) (cs : Cs) (x y : D) (zs : List D) : Prop := ∀ G H vx vy, Wl K G H cs → RepC K G cs vx x → RepC K G cs vy y → ∀ Q : VK, (∀ p vs G2 H2, Nx G H G2 H2 → H p = none → G2 p = none → H2 p = some (.lst vs) → RepL K G2 vs zs → Q (.ref p) H2) → r vx vy H Q
theorem ev_op (ha : EvR K ta ρ cs x) (hb : EvR K tb ρ cs y) (hr : OpD K rr cs x y z) : Ev K (tOp rr ta tb) ρ cs z := fun G H σ w e Q q =>
  ha G H σ w e _ fun v G2 H2 n rv => hb G2 H2 σ (w.step n) (e.mono n.g) _ fun u G3 H3 n2 ru => hr G3 H3 v u ((w.step n).step n2) (rv.mono n2) ru Q fun z' G4 H4 n3 rz => q z' G4 H4 ((n.trans n2).trans n3) rz
theorem en_op {zs : List D} (ha : EvR K ta ρ cs x) (hb : EvR K tb ρ cs y) (hr : OpN K rr cs x y zs) : EvN K (tOp rr ta tb) ρ cs zs := fun G H σ w e Q q =>
  ha G H σ w e _ fun v G2 H2 n rv => hb G2 H2 σ (w.step n) (e.mono n.g) _ fun u G3 H3 n2 ru => hr G3 H3 v u ((w.step n).step n2) (rv.mono n2) ru Q fun p vs G4 H4 n3 hp gp h4 rz => q p vs G4 H4 ((n.trans n2).trans n3) (Evl.fresh_back (n.h.trans n2.h) hp) gp h4 rz
theorem opD_val {v : V} (h : ∀ G H vx vy, Wl K G H cs → RepC K G cs vx x → RepC K G cs vy y → ∀ Q : VK, Q v H → rr vx vy H Q) : OpD K rr cs x y (sc v) := fun G H vx vy w rx ry Q q =>
  h G H vx vy w rx ry Q (q v G H (Nx.refl w.sub) (rep_sc v))
theorem ev_un {ru : V → Hp → VK → Prop} {i : Int} {g : Int → V} (ha : Ev K ta ρ cs (.int i)) : Ev K (tUn (rU g) ta) ρ cs (sc (g i)) := fun G H σ w e Q q =>
  ha G H σ w e _ fun v G2 H2 n rv => by
    cases rv
    exact ⟨i, rfl, q _ G2 H2 n (rep_sc _)⟩
theorem ev_neg {i : Int} (ha : Ev K ta ρ cs (.int i)) : Ev K (tUn (rU fun i => .int (-i)) ta) ρ cs (.int (-i)) := ev_un (ru := fun _ _ _ => True) ha

/-! ### tests -/
theorem et_test {b : Bool} (h : Ev K te ρ cs (.bl b)) : EvT K (tTest te) ρ cs b := fun G H σ w e Q q => h G H σ w e _ fun v G2 H2 n r => by
  cases r
  exact ⟨b, rfl, q G2 H2 n⟩
theorem et_B {b : Bool} (h : Ev K te ρ cs (.bl b)) : EvT K (tB te) ρ cs b := fun G H σ w e Q q => h G H σ w e _ fun v G2 H2 n r => by
  cases r
  exact ⟨b, rfl, q G2 H2 n⟩
theorem et_and {a b : Bool} (h1 : EvT K tt ρ cs a) (h2 : a = true → EvT K tu ρ cs b) : EvT K (tAnd tt tu) ρ cs (a && b) := fun G H σ w e Q q => h1 G H σ w e _ fun G2 H2 n => by
  cases a with
  | true => exact h2 rfl G2 H2 σ (w.step n) (e.mono n.g) Q fun G3 H3 n2 => q G3 H3 (n.trans n2)
  | false => exact q G2 H2 n
theorem et_or {a b : Bool} (h1 : EvT K tt ρ cs a) (h2 : a = false → EvT K tu ρ cs b) : EvT K (tOr tt tu) ρ cs (a || b) := fun G H σ w e Q q => h1 G H σ w e _ fun G2 H2 n => by
  cases a with
  | true => exact q G2 H2 n
  | false => exact h2 rfl G2 H2 σ (w.step n) (e.mono n.g) Q fun G3 H3 n2 => q G3 H3 (n.trans n2)
theorem et_not {a : Bool} (h1 : EvT K tt ρ cs a) : EvT K (tNot tt) ρ cs (!a) := fun G H σ w e Q q => h1 G H σ w e _ fun G2 H2 n => q G2 H2 n
theorem et_yes : EvT K tYes ρ cs true := fun G H σ w e Q q => q G H (Nx.refl w.sub)
theorem ev_andV {a b : Bool} (h1 : Ev K ta ρ cs (.bl a)) (h2 : a = true → Ev K tb ρ cs (.bl b)) : Ev K (tAndV ta tb) ρ cs (.bl (a && b)) := fun G H σ w e Q q => h1 G H σ w e _ fun v G2 H2 n r => by
  cases r
  refine ⟨a, rfl, ?_⟩
  cases a with
  | true => exact h2 rfl G2 H2 σ (w.step n) (e.mono n.g) Q fun v G3 H3 n2 r => q v G3 H3 (n.trans n2) r
  | false => exact q _ G2 H2 n (.bl _)
theorem ev_orV {a b : Bool} (h1 : Ev K ta ρ cs (.bl a)) (h2 : a = false → Ev K tb ρ cs (.bl b)) : Ev K (tOrV ta tb) ρ cs (.bl (a || b)) := fun G H σ w e Q q => h1 G H σ w e _ fun v G2 H2 n r => by
  cases r
  refine ⟨a, rfl, ?_⟩
  cases a with
  | true => exact q _ G2 H2 n (.bl _)
  | false => exact h2 rfl G2 H2 σ (w.step n) (e.mono n.g) Q fun v G3 H3 n2 r => q v G3 H3 (n.trans n2) r
theorem ev_notV {a : Bool} (h1 : Ev K ta ρ cs (.bl a)) : Ev K (tNotV ta) ρ cs (.bl (!a)) := fun G H σ w e Q q => h1 G H σ w e _ fun v G2 H2 n r => by
  cases r
  exact ⟨a, rfl, q _ G2 H2 n (.bl _)⟩
theorem ev_if {b : Bool} (h : EvT K tt ρ cs b) (h1 : b = true → Ev K ta ρ cs d) (h2 : b = false → Ev K tb ρ cs d) : Ev K (tIf tt ta tb) ρ cs d := fun G H σ w e Q q => h G H σ w e _ fun G2 H2 n => by
  cases b with
  | true => exact h1 rfl G2 H2 σ (w.step n) (e.mono n.g) Q fun v G3 H3 n2 r => q v G3 H3 (n.trans n2) r
  | false => exact h2 rfl G2 H2 σ (w.step n) (e.mono n.g) Q fun v G3 H3 n2 r => q v G3 H3 (n.trans n2) r
/-- a < b < c -/
theorem ev_chain {r' : R2} {tc : TE} {a b : Bool} {w' : D} (ha : EvR K ta ρ cs x) (hb : EvR K tb ρ cs y) (hr : OpD K rr cs x y (.bl a)) (hc : a = true → EvR K tc ρ cs w') (hr' : a = true → OpD K r' cs y w' (.bl b)) :
    Ev K (tChain rr r' ta tb tc) ρ cs (.bl (a && b)) := fun G H σ w e Q q =>
  ha G H σ w e _ fun v G2 H2 n rv => hb G2 H2 σ (w.step n) (e.mono n.g) _ fun u G3 H3 n2 ru => hr G3 H3 v u ((w.step n).step n2) (rv.mono n2) ru _ fun z' G4 H4 n3 rz => by
    cases rz
    refine ⟨a, rfl, ?_⟩
    cases a with
    | true => exact hc rfl G4 H4 σ (((w.step n).step n2).step n3) (((e.mono n.g).mono n2.g).mono n3.g) _ fun t G5 H5 n4 rt => hr' rfl G5 H5 u t ((((w.step n).step n2).step n3).step n4) ((ru.mono n3).mono n4) rt Q fun z2 G6 H6 n5 r6 => q z2 G6 H6 ((((n.trans n2).trans n3).trans n4).trans n5) r6
    | false => exact q _ G4 H4 ((n.trans n2).trans n3) (.bl _)

/-! ### arguments, displays -/
theorem ea_nil : EvA K tNil ρ cs [] := fun G H σ w e Q q => q [] G H (Nx.refl w.sub) .nil
theorem ea_cons {tr : TA} {ds : List D} (h : Ev K ta ρ cs d) (hr : EvA K tr ρ cs ds) : EvA K (tCons ta tr) ρ cs (d :: ds) := fun G H σ w e Q q =>
  h G H σ w e _ fun v G2 H2 n rv => hr G2 H2 σ (w.step n) (e.mono n.g) _ fun vs G3 H3 n2 rs => q (v :: vs) G3 H3 (n.trans n2) (.cons (rv.mono n2.g) rs)
theorem ear_nil : EvAR K tNil ρ cs [] := fun G H σ w e Q q => q [] G H (Nx.refl w.sub) .nil
theorem ear_cons {tr : TA} {ds : List D} (h : EvR K ta ρ cs d) (hr : EvAR K tr ρ cs ds) : EvAR K (tCons ta tr) ρ cs (d :: ds) := fun G H σ w e Q q =>
  h G H σ w e _ fun v G2 H2 n rv => hr G2 H2 σ (w.step n) (e.mono n.g) _ fun vs G3 H3 n2 rs => q (v :: vs) G3 H3 (n.trans n2) (.cons (rv.mono n2) rs)
theorem sz {n : Nat} (h : n ≤ 100000) : n ≤ sizeLine := Evl.sz_of h
theorem ev_tup {t : TA} {ds : List D} (h : EvA K t ρ cs ds) (hl : ds.length ≤ 100000) : Ev K (tTup t) ρ cs (.tup ds) := fun G H σ w e Q q =>
  h G H σ w e _ fun vs G2 H2 n rs => ⟨by rw [rs.length]; exact sz hl, fun p hp => q (.ref p) _ _ (n.trans (Nx.new n.s hp)) (.tup (.inl upd_same) (rs.mono (Ex.new (Evl.fresh_back n.s hp))))⟩
theorem en_lst {t : TA} {ds : List D} (h : EvA K t ρ cs ds) (hl : ds.length ≤ 100000) : EvN K (tLst t) ρ cs ds := fun G H σ w e Q q =>
  h G H σ w e _ fun vs G2 H2 n rs => ⟨by rw [rs.length]; exact sz hl, fun p hp => q p vs G2 _ (n.trans (Nx.newc n.s hp)) (Evl.fresh_back n.h hp) (Evl.fresh_back n.s hp) upd_same rs⟩

/-! ### calls -/
def CallD (K : PySem.W.Frag) (r : List V → Hp → VK → Prop) (cs : Cs) (ds : List D) (z : D) : Prop := ∀ G H vs, Wl K G H cs → RepCL K G cs vs ds → ∀ Q : VK, (∀ v G2 H2, Nx G H G2 H2 → Rep K G2 v z → Q v H2) → r vs H Q
def CallN (K : PySem.W.Frag) (r : List V → Hp → VK → Prop) (cs : Cs) (ds : List D) (zs : List D) : Prop := ∀ G H vs, Wl K G H cs → RepCL K G cs vs ds → ∀ Q : VK, (∀ p us G2 H2, Nx G H G2 H2 → H p = none → G2 p = none → H2 p = some (.lst us) → RepL K G2 us zs → Q (.ref p) H2) → r vs H Q
theorem ev_cb {rc : List V → Hp → VK → Prop} {t : TA} {ds : List D} (h : EvAR K t ρ cs ds) (hr : CallD K rc cs ds z) : Ev K (tCB rc t) ρ cs z := fun G H σ w e Q q =>
  h G H σ w e _ fun vs G2 H2 n rs => hr G2 H2 vs (w.step n) rs Q fun v G3 H3 n2 r => q v G3 H3 (n.trans n2) r
theorem en_cb {rc : List V → Hp → VK → Prop} {t : TA} {ds zs : List D} (h : EvAR K t ρ cs ds) (hr : CallN K rc cs ds zs) : EvN K (tCB rc t) ρ cs zs := fun G H σ w e Q q =>
  h G H σ w e _ fun vs G2 H2 n rs => hr G2 H2 vs (w.step n) rs Q fun p us G3 H3 n2 hp gp h3 r => q p us G3 H3 (n.trans n2) (Evl.fresh_back n.h hp) gp h3 r
/-- a def's promise: called with ds it gives z and changes nothing -/
def SpD (K : PySem.W.Frag) (sp : Sp) (ds : List D) (z : D) : Prop := ∀ G H vs, Ex G H → RepL K G vs ds → ∀ (Q : VK) (E : XK), (∀ v G2 H2, Nx G H G2 H2 → Rep K G2 v z → Q v H2) → sp vs H Q E
def SpN (K : PySem.W.Frag) (sp : Sp) (ds : List D) (zs : List D) : Prop := ∀ G H vs, Ex G H → RepL K G vs ds → ∀ (Q : VK) (E : XK), (∀ p us G2 H2, Nx G H G2 H2 → H p = none → G2 p = none → H2 p = some (.lst us) → RepL K G2 us zs → Q (.ref p) H2) → sp vs H Q E
theorem SpN.sd {sp : Sp} {ds zs : List D} (h : SpN K sp ds zs) : SpD K sp ds (.lst zs) := fun G H vs s r Q E q => h G H vs s r Q E fun p us G2 H2 n hp gp h2 r2 =>
  q (.ref p) _ H2 (n.take hp h2 gp) (.lst upd_same (r2.mono (Ex.new gp)))
theorem ev_call {sp : Sp} {E : XK} {t : TA} {ds : List D} (h : EvA K t ρ cs ds) (hs : SpD K sp ds z) : Ev K (tCall sp [] E t) ρ cs z := fun G H σ w e Q q =>
  h G H σ w e _ fun vs G2 H2 n rs => by
    rw [List.append_nil]
    exact hs G2 H2 vs n.s rs Q E fun v G3 H3 n2 r => q v G3 H3 (n.trans n2) r
theorem en_call {sp : Sp} {E : XK} {t : TA} {ds zs : List D} (h : EvA K t ρ cs ds) (hs : SpN K sp ds zs) : EvN K (tCall sp [] E t) ρ cs zs := fun G H σ w e Q q =>
  h G H σ w e _ fun vs G2 H2 n rs => by
    rw [List.append_nil]
    exact hs G2 H2 vs n.s rs Q E fun p us G3 H3 n2 hp gp h3 r => q p us G3 H3 (n.trans n2) (Evl.fresh_back n.h hp) gp h3 r
theorem ev_fld {C : Addr} {f : Str} {fs : List (Str × D)} (h : EvR K ta ρ cs (.obj C fs)) (c : Cls K C) (na : NoAttr K C f) (hl : fs.lookup f = some z) : Ev K (tFld K ta f) ρ cs z := fun G H σ w e Q q =>
  h G H σ w e _ fun v G2 H2 n r => by
    obtain ⟨a, dx, vs, rfl, ha, rf⟩ := r.objC (w.step n)
    obtain ⟨u, hu, ru⟩ := rf.lookup hl
    exact ⟨a, C, dx, vs, u, rfl, ha, c, na, hu, q u G2 H2 n ru⟩
theorem ev_meth {C : Addr} {m : Str} {sp : Sp} {E : XK} {t : TA} {fs : List (Str × D)} {ds : List D} (ho : Ev K ta ρ cs (.obj C fs)) (hm : fs.lookup m = none) (h : EvA K t ρ cs ds) (hs : SpD K sp (.obj C fs :: ds) z) : Ev K (tMeth C m sp [] E ta t) ρ cs z := fun G H σ w e Q q =>
  ho G H σ w e _ fun v G2 H2 n r => by
    cases r with
    | obj hg rf =>
      refine ⟨_, _, _, rfl, n.s _ _ hg, rf.lookup_none hm, h G2 H2 σ (w.step n) (e.mono n.g) _ fun vs G3 H3 n2 rs => ?_⟩
      rw [List.append_nil]
      exact hs G3 H3 _ n2.s (.cons (.obj (n2.g _ _ hg) (rf.mono n2.g)) rs) Q E fun v G4 H4 n3 r4 => q v G4 H4 ((n.trans n2).trans n3) r4
theorem en_meth {C : Addr} {m : Str} {sp : Sp} {E : XK} {t : TA} {fs : List (Str × D)} {ds zs : List D} (ho : Ev K ta ρ cs (.obj C fs)) (hm : fs.lookup m = none) (h : EvA K t ρ cs ds) (hs : SpN K sp (.obj C fs :: ds) zs) : EvN K (tMeth C m sp [] E ta t) ρ cs zs := fun G H σ w e Q q =>
  ho G H σ w e _ fun v G2 H2 n r => by
    cases r with
    | obj hg rf =>
      refine ⟨_, _, _, rfl, n.s _ _ hg, rf.lookup_none hm, h G2 H2 σ (w.step n) (e.mono n.g) _ fun vs G3 H3 n2 rs => ?_⟩
      rw [List.append_nil]
      exact hs G3 H3 _ n2.s (.cons (.obj (n2.g _ _ hg) (rf.mono n2.g)) rs) Q E fun p us G4 H4 n3 hp gp h4 r4 => q p us G4 H4 ((n.trans n2).trans n3) (Evl.fresh_back (n.h.trans n2.h) hp) gp h4 r4

/-! ### parts of a slice -/
theorem eo_none : EvO K tNoPart ρ cs none := fun G H σ w e Q q => q G H (Nx.refl w.sub)
theorem eo_some {i : Int} (h : Ev K te ρ cs (.int i)) : EvO K (tPart te) ρ cs (some i) := fun G H σ w e Q q => h G H σ w e _ fun v G2 H2 n r => by
  cases r
  exact ⟨i, rfl, q G2 H2 n⟩
end
end Lv

namespace Lv
open PySem L2
open Evl (Ex)
/-! ### the operators, one reading each -/
def rStrAdd : R2 := fun x y H Q => ∃ i j, x = .str i ∧ y = .str j ∧ i.length + j.length ≤ sizeLine ∧ Q (.str (i ++ j)) H
def uAdd (K : PySem.W.Frag) : R2 := fun x y H Q => rI0 (fun i j => .int (i + j)) x y H Q ∨ (rCatA K x y H Q ∨ (rCat x y H Q ∨ rStrAdd x y H Q))
def rInT (K : PySem.W.Frag) (neg : Bool) : R2 := fun x y H Q => ∃ d ds, Dp K H x d ∧ Dp K H y (.tuple ds) ∧ SeqAt.shaped d = true ∧ SeqAt.shaped (.tuple ds) = true ∧ Q (.bl (if neg then !ds.any fun z => PyData.eqv z d else ds.any fun z => PyData.eqv z d)) H
def rInS (neg : Bool) : R2 := fun x y H Q => ∃ (c : Nat) (z : Str), x = .str ⟨#[c]⟩ ∧ y = .str z ∧ Q (.bl (if neg then !decide (c ∈ z.cps.toList) else decide (c ∈ z.cps.toList))) H
def uIn (K : PySem.W.Frag) : R2 := fun x y H Q => rInD K x y H Q ∨ (rInT K false x y H Q ∨ rInS false x y H Q)
def uNin (K : PySem.W.Frag) : R2 := fun x y H Q => rNotInD K x y H Q ∨ (rInT K true x y H Q ∨ rInS true x y H Q)
abbrev uLt : R2 := rI0 fun i j => .bl (decide (i < j))
abbrev uLe : R2 := rI0 fun i j => .bl (decide (i ≤ j))
abbrev uGt : R2 := rI0 fun i j => .bl (decide (j < i))
abbrev uGe : R2 := rI0 fun i j => .bl (decide (j ≤ i))
abbrev uSub : R2 := rI0 fun i j => .int (i - j)
abbrev uMul : R2 := rI CMul fun i j => .int (i * j)
abbrev uDiv : R2 := rI CDiv fun i j => .int (i / j)
abbrev uMod : R2 := rI (fun _ j => 0 < j) fun i j => .int (i % j)
abbrev uPow : R2 := rI CPow fun i j => .int (i ^ j.toNat)
def uIs : R2 := fun x y H Q => y = .non ∧ Q (.bl (decide (x = .non))) H
def uIsNot : R2 := fun x y H Q => y = .non ∧ Q (.bl (!decide (x = .non))) H
def uLen (K : PySem.W.Frag) : List V → Hp → VK → Prop := fun xs H Q => (∃ p ys, xs = [.ref p] ∧ (SqL K H p ys ∨ SqT K H p ys) ∧ Q (.int ys.length) H) ∨ ∃ x : Str, xs = [.str x] ∧ x.length ≤ sizeLine ∧ Q (.int x.length) H
def uList (K : PySem.W.Frag) : List V → Hp → VK → Prop := fun xs H Q => ∃ p ys, xs = [.ref p] ∧ (SqL K H p ys ∨ SqT K H p ys) ∧ ∀ l, H l = none → Q (.ref l) (upd H l (.lst ys))
def uTuple (K : PySem.W.Frag) : List V → Hp → VK → Prop := fun xs H Q => ∃ p ys, xs = [.ref p] ∧ ((SqL K H p ys ∧ ∀ l, H l = none → Q (.ref l) (upd H l (.tup ys))) ∨ (SqT K H p ys ∧ Q (.ref p) H))
def uInt : List V → Hp → VK → Prop := fun xs H Q => ∃ i, xs = [.int i] ∧ Q (.int i) H
def uSl (K : PySem.W.Frag) : V → Option Int → Option Int → Hp → VK → Prop := fun x l u H Q => rSlL K x l u H Q ∨ (rSlA K x l u H Q ∨ rSlS x l u H Q)
section
variable {X : Cx}
theorem op_uAdd : OpR X (binaryOp .Add) (uAdd X.K) := op_add.or (op_catA.or (op_cat.or op_add_str))
theorem op_inT (hu : X.A.units + 65 < cLine) : OpR X (compareOp .In) (rInT X.K false) := by
  intro pins s σ H x y v u Q I rx ry h
  obtain ⟨d, ds, hd, he, sd, se, q⟩ := h
  obtain ⟨as, r1⟩ := Dp.reads I d x v hd rx
  obtain ⟨bs, r2⟩ := Dp.reads I (.tuple ds) y u he ry
  exact SeqAt.in_tuple_reads r2 r1 (SeqAt.canLay_of_shaped se) (SeqAt.canLay_of_shaped sd) (PyProof.Rows.room_in_shaped sd hu) ⟨.bl _, H, I, rfl, q⟩
theorem op_ninT (hu : X.A.units + 65 < cLine) : OpR X (compareOp .NotIn) (rInT X.K true) := by
  intro pins s σ H x y v u Q I rx ry h
  obtain ⟨d, ds, hd, he, sd, se, q⟩ := h
  obtain ⟨as, r1⟩ := Dp.reads I d x v hd rx
  obtain ⟨bs, r2⟩ := Dp.reads I (.tuple ds) y u he ry
  exact SeqAt.notIn_tuple_reads r2 r1 (SeqAt.canLay_of_shaped se) (SeqAt.canLay_of_shaped sd) (PyProof.Rows.room_in_shaped sd hu) ⟨.bl _, H, I, rfl, q⟩
theorem op_uIn (hu : X.A.units + 65 < cLine) : OpR X (compareOp .In) (uIn X.K) := (op_inD hu).or ((op_inT hu).or op_in_sign)
theorem op_uNin (hu : X.A.units + 65 < cLine) : OpR X (compareOp .NotIn) (uNin X.K) := (op_notInD hu).or ((op_ninT hu).or op_notIn_sign)
theorem op_uIs : OpR X (compareOp .Is) uIs := op_isN
theorem op_uIsNot : OpR X (compareOp .IsNot) uIsNot := op_notN
theorem cr_len : CallR X (.builtin "len") (uLen X.K) := call_len_seq.or call_len_str
theorem cr_list : CallR X (.type "list") (uList X.K) := call_list_of
theorem cr_tuple : CallR X (.type "tuple") (uTuple X.K) := call_tuple_of
theorem cr_int : CallR X (.type "int") uInt := by
  intro pins s σ H xs vs Q I rx h
  obtain ⟨i, e, q⟩ := h
  exact call_int1 pins s σ H xs vs Q I rx (Or.inl ⟨i, e, q⟩)
theorem sl_u : SlR X (uSl X.K) := sl_list.or (sl_tupA.or sl_str)
end
/-! ### the operators on data -/
section
variable {K : PySem.W.Frag} {G G2 H H2 H3 G3 : Hp} {ρ : Ro} {cs : Cs} {ta tb te tx : TE} {tt tu : TT} {d d' e x y z : D}
theorem opd_I0 {g : Int → Int → V} {i j : Int} : OpD K (rI0 g) cs (.int i) (.int j) (sc (g i j)) := opD_val fun G H vx vy w rx ry Q q => ⟨i, j, rx.int w, ry.int w, q⟩
theorem opd_I {C : Int → Int → Prop} {g : Int → Int → V} {i j : Int} (hc : C i j) : OpD K (rI C g) cs (.int i) (.int j) (sc (g i j)) := opD_val fun G H vx vy w rx ry Q q => ⟨i, j, rx.int w, ry.int w, hc, q⟩
theorem opd_lt {i j : Int} : OpD K uLt cs (.int i) (.int j) (.bl (decide (i < j))) := opd_I0
theorem opd_le {i j : Int} : OpD K uLe cs (.int i) (.int j) (.bl (decide (i ≤ j))) := opd_I0
theorem opd_gt {i j : Int} : OpD K uGt cs (.int i) (.int j) (.bl (decide (j < i))) := opd_I0
theorem opd_ge {i j : Int} : OpD K uGe cs (.int i) (.int j) (.bl (decide (j ≤ i))) := opd_I0
theorem opd_sub {i j : Int} : OpD K uSub cs (.int i) (.int j) (.int (i - j)) := opd_I0
theorem opd_mul {i j : Int} (h : CMul i j) : OpD K uMul cs (.int i) (.int j) (.int (i * j)) := opd_I h
theorem opd_div {i j : Int} (h : 0 < j ∧ j < 1073741824) : OpD K uDiv cs (.int i) (.int j) (.int (i / j)) := opd_I h
theorem opd_mod {i j : Int} (h : 0 < j) : OpD K uMod cs (.int i) (.int j) (.int (i % j)) := opd_I h
theorem opd_pow {i j : Int} (h : CPow i j) : OpD K uPow cs (.int i) (.int j) (.int (i ^ j.toNat)) := opd_I h
theorem opd_add {i j : Int} : OpD K (uAdd K) cs (.int i) (.int j) (.int (i + j)) := opD_val (v := .int (i + j)) fun G H vx vy w rx ry Q q => .inl ⟨i, j, rx.int w, ry.int w, q⟩
theorem opd_addS {i j : Str} (h : i.length + j.length ≤ 100000) : OpD K (uAdd K) cs (.str i) (.str j) (.str (i ++ j)) := opD_val (v := .str (i ++ j)) fun G H vx vy w rx ry Q q => .inr (.inr (.inr ⟨i, j, rx.str w, ry.str w, sz h, q⟩))
theorem opd_addT {xs ys : List D} (h : xs.length + ys.length ≤ 100000) : OpD K (uAdd K) cs (.tup xs) (.tup ys) (.tup (xs ++ ys)) := fun G H vx vy w rx ry Q q => by
  obtain ⟨a, vs, rfl, ha, ra⟩ := rx.seqT w
  obtain ⟨b, us, rfl, hb, rb⟩ := ry.seqT w
  refine .inr (.inl ⟨a, b, vs, us, rfl, rfl, ha, hb, by rw [ra.length, rb.length]; exact sz h, fun e => ?_, fun e e2 => ?_, fun e e2 p hp => ?_⟩)
  · subst e
    cases ra
    rcases ry with ry | ⟨c, ec, hc⟩
    · exact q _ G H (Nx.refl w.sub) ry
    · exact (w.cell _ hc).2.elim
  · subst e2
    cases rb
    rw [List.append_nil] at q
    rcases rx with rx | ⟨c, ec, hc⟩
    · exact q _ G H (Nx.refl w.sub) rx
    · exact (w.cell _ hc).2.elim
  · exact q (.ref p) _ _ (Nx.new w.sub hp) (.tup (.inl upd_same) ((ra.append rb).mono (Ex.new (Evl.fresh_back w.sub hp))))
theorem opn_addL {xs ys : List D} (h : xs.length + ys.length ≤ 100000) : OpN K (uAdd K) cs (.lst xs) (.lst ys) (xs ++ ys) := fun G H vx vy w rx ry Q q => by
  obtain ⟨a, vs, rfl, ha, ra⟩ := rx.seqL w
  obtain ⟨b, us, rfl, hb, rb⟩ := ry.seqL w
  exact .inr (.inr (.inl ⟨a, b, vs, us, rfl, rfl, ha, hb, by rw [ra.length, rb.length]; exact sz h, fun p hp => q p _ G _ (Nx.newc w.sub hp) hp (Evl.fresh_back w.sub hp) upd_same (ra.append rb)⟩))
theorem opd_ixScr {ns : List Int} {i z : Int} (h : atI ns i = some z) : OpD K (rIx K) cs (.scr ns) (.int i) (.int z) := fun G H vx vy w rx ry Q q => by
  rcases rx with rx | ⟨a, e, c⟩
  · cases rx with
    | scr hs =>
      have ei := ry.int w
      refine .inl ⟨_, _, i, .int z, rfl, ei, Evl.ex_l w.sub hs, ?_, q _ G H (Nx.refl w.sub) (.int z)⟩
      unfold atI at h ⊢
      rw [List.length_map]
      cases hj : ixN ns.length i with
      | none => rw [hj] at h; cases h
      | some j =>
        rw [hj] at h
        show (ns.map V.int)[j]? = _
        rw [List.getElem?_map, show ns[j]? = some z from h]
        rfl
  · exact (w.cell _ c).2.elim
theorem cd_lenScr {ns : List Int} : CallD K (uLen K) cs [.scr ns] (.int ns.length) := fun G H vs w r Q q => by
  cases r with
  | cons r0 r1 =>
    cases r1
    rcases r0 with rx | ⟨a, e, c⟩
    · cases rx with
      | scr hs =>
        refine .inl ⟨_, _, rfl, .inl (Evl.ex_l w.sub hs), ?_⟩
        rw [List.length_map]
        exact q _ G H (Nx.refl w.sub) (.int _)
    · exact (w.cell _ c).2.elim
theorem opd_eq {n : Nat} (hn : n ≤ 64) (hx : ok n x = true) (hy : ok n y = true) : OpD K (rEqD K) cs x y (.bl (eqD x y)) := opD_val (v := .bl (eqD x y)) fun G H vx vy w rx ry Q q =>
  ⟨_, _, rx.dp w (ok_pl hx), ry.dp w (ok_pl hy), shaped_of hn hx, shaped_of hn hy, q⟩
theorem opd_ne {n : Nat} (hn : n ≤ 64) (hx : ok n x = true) (hy : ok n y = true) : OpD K (rNeD K) cs x y (.bl (!eqD x y)) := opD_val (v := .bl (!eqD x y)) fun G H vx vy w rx ry Q q =>
  ⟨_, _, rx.dp w (ok_pl hx), ry.dp w (ok_pl hy), shaped_of hn hx, shaped_of hn hy, q⟩
def inD (x : D) (ys : List D) : Bool := ys.any fun y => eqD y x
theorem inD_py (x : D) (ys : List D) : ((toPyL ys).any fun z => PyData.eqv z (toPy x)) = inD x ys := by
  rw [toPyL_map, List.any_map]
  rfl
theorem inD_iff {α : Type} {f : α → D} (h : Apart f) {a : α} {xs : List α} : inD (f a) (xs.map f) = true ↔ a ∈ xs := by
  unfold inD
  rw [List.any_map, List.any_eq_true]
  constructor
  · rintro ⟨b, hb, e⟩
    rw [← (h b a).mp e]
    exact hb
  · intro ha
    exact ⟨a, ha, (h a a).mpr rfl⟩
theorem inD_dec {α : Type} [DecidableEq α] {f : α → D} (h : Apart f) {a : α} {xs : List α} : inD (f a) (xs.map f) = decide (a ∈ xs) := by
  rw [Bool.eq_iff_iff, inD_iff h, decide_eq_true_iff]
theorem opd_inL {n : Nat} {ys : List D} (hn : n < 64) (hx : ok n x = true) (hy : okL n ys = true) : OpD K (uIn K) cs x (.lst ys) (.bl (inD x ys)) := by
  rw [← inD_py]
  refine opD_val (v := .bl _) fun G H vx vy w rx ry Q q => .inl ⟨_, toPyL ys, rx.dp w (ok_pl hx), ?_, shaped_of (by omega) hx, ?_, q⟩
  · have e := ry.dp w (by rw [plD]; exact (okL_iff.mp hy).1)
    rw [toPy] at e
    exact e
  · have e := shaped_of (n := n + 1) (d := .lst ys) (by omega) (by rw [ok_lst]; exact hy)
    rw [toPy] at e
    exact e
theorem opd_inT {n : Nat} {ys : List D} (hn : n < 64) (hx : ok n x = true) (hy : okL n ys = true) : OpD K (uIn K) cs x (.tup ys) (.bl (inD x ys)) := by
  rw [← inD_py]
  refine opD_val (v := .bl _) fun G H vx vy w rx ry Q q => .inr (.inl ⟨_, toPyL ys, rx.dp w (ok_pl hx), ?_, shaped_of (by omega) hx, ?_, q⟩)
  · have e := ry.dp w (by rw [plD]; exact (okL_iff.mp hy).1)
    rw [toPy] at e
    exact e
  · have e := shaped_of (n := n + 1) (d := .tup ys) (by omega) (by rw [ok_tup]; exact hy)
    rw [toPy] at e
    exact e
theorem opd_ninL {n : Nat} {ys : List D} (hn : n < 64) (hx : ok n x = true) (hy : okL n ys = true) : OpD K (uNin K) cs x (.lst ys) (.bl (!inD x ys)) := by
  rw [← inD_py]
  refine opD_val (v := .bl _) fun G H vx vy w rx ry Q q => .inl ⟨_, toPyL ys, rx.dp w (ok_pl hx), ?_, shaped_of (by omega) hx, ?_, q⟩
  · have e := ry.dp w (by rw [plD]; exact (okL_iff.mp hy).1)
    rw [toPy] at e
    exact e
  · have e := shaped_of (n := n + 1) (d := .lst ys) (by omega) (by rw [ok_lst]; exact hy)
    rw [toPy] at e
    exact e
theorem opd_ninT {n : Nat} {ys : List D} (hn : n < 64) (hx : ok n x = true) (hy : okL n ys = true) : OpD K (uNin K) cs x (.tup ys) (.bl (!inD x ys)) := by
  rw [← inD_py]
  refine opD_val (v := .bl _) fun G H vx vy w rx ry Q q => .inr (.inl ⟨_, toPyL ys, rx.dp w (ok_pl hx), ?_, shaped_of (by omega) hx, ?_, q⟩)
  · have e := ry.dp w (by rw [plD]; exact (okL_iff.mp hy).1)
    rw [toPy] at e
    exact e
  · have e := shaped_of (n := n + 1) (d := .tup ys) (by omega) (by rw [ok_tup]; exact hy)
    rw [toPy] at e
    exact e
theorem opd_inS {c : Nat} {s : Str} : OpD K (uIn K) cs (.str ⟨#[c]⟩) (.str s) (.bl (decide (c ∈ s.cps.toList))) := opD_val (v := .bl _) fun G H vx vy w rx ry Q q => .inr (.inr ⟨c, s, rx.str w, ry.str w, q⟩)
theorem opd_ninS {c : Nat} {s : Str} : OpD K (uNin K) cs (.str ⟨#[c]⟩) (.str s) (.bl (!decide (c ∈ s.cps.toList))) := opD_val (v := .bl _) fun G H vx vy w rx ry Q q => .inr (.inr ⟨c, s, rx.str w, ry.str w, q⟩)
/-- x is None: x no value of the kind any -/
def isN : D → Bool
  | .non => true
  | _ => false
def isAny : D → Bool
  | .any _ => true
  | _ => false
theorem repC_non (w : Wl K G H cs) {v : V} {d : D} (r : RepC K G cs v d) (hd : isAny d = false) : decide (v = .non) = isN d := by
  rcases r with r | ⟨a, rfl, c⟩
  · cases r <;> first | rfl | (cases hd)
  · have c2 := (w.cell _ c).2
    cases d <;> first | rfl | exact c2.elim
theorem opd_is (hd : isAny x = false) : OpD K uIs cs x .non (.bl (isN x)) := fun G H vx vy w rx ry Q q => ⟨ry.non w, by
  rw [repC_non w rx hd]
  exact q _ G H (Nx.refl w.sub) (.bl _)⟩
theorem opd_isnot (hd : isAny x = false) : OpD K uIsNot cs x .non (.bl (!isN x)) := fun G H vx vy w rx ry Q q => ⟨ry.non w, by
  rw [repC_non w rx hd]
  exact q _ G H (Nx.refl w.sub) (.bl _)⟩
theorem opd_ixL {ds : List D} {i : Int} (h : atI ds i = some z) : OpD K (rIx K) cs (.lst ds) (.int i) z := fun G H vx vy w rx ry Q q => by
  obtain ⟨a, vs, rfl, ha, ra⟩ := rx.seqL w
  have ei := ry.int w
  unfold atI at h
  cases hj : ixN ds.length i with
  | none => rw [hj] at h; cases h
  | some j =>
    rw [hj] at h
    obtain ⟨v, hv, rv⟩ := ra.get (show ds[j]? = some z from h)
    exact .inl ⟨a, vs, i, v, rfl, ei, .inl (.inl ha), by unfold atI; rw [ra.length, hj]; exact hv, q v G H (Nx.refl w.sub) rv⟩
theorem opd_ixT {ds : List D} {i : Int} (h : atI ds i = some z) : OpD K (rIx K) cs (.tup ds) (.int i) z := fun G H vx vy w rx ry Q q => by
  obtain ⟨a, vs, rfl, ha, ra⟩ := rx.seqT w
  have ei := ry.int w
  unfold atI at h
  cases hj : ixN ds.length i with
  | none => rw [hj] at h; cases h
  | some j =>
    rw [hj] at h
    obtain ⟨v, hv, rv⟩ := ra.get (show ds[j]? = some z from h)
    exact .inr (.inl ⟨a, vs, i, v, rfl, ei, ha, by unfold atI; rw [ra.length, hj]; exact hv, q v G H (Nx.refl w.sub) rv⟩)
theorem opd_ixS {s : Str} {i : Int} {c : Nat} (hl : s.length ≤ 100000) (h : atI s.cps.toList i = some c) : OpD K (rIx K) cs (.str s) (.int i) (.str ⟨#[c]⟩) := opD_val (v := .str ⟨#[c]⟩) fun G H vx vy w rx ry Q q =>
  .inr (.inr ⟨s, i, c, rx.str w, ry.int w, sz hl, h, q⟩)
theorem atI_nat {α : Type} {xs : List α} {j : Nat} {x : α} (h : xs[j]? = some x) : atI xs (j : Int) = some x := L2.atI_nat h
/-- the items of xs[lo:hi] -/
def cutD (xs : List D) (lo hi : Option Int) : List D := (xs.drop (HT.sIx xs.length 0 lo)).take (HT.sIx xs.length xs.length hi - HT.sIx xs.length 0 lo)
theorem rep_cut {vs : List V} {ds : List D} (r : RepL K G vs ds) (lo hi : Option Int) : RepL K G (cutV vs lo hi) (cutD ds lo hi) := by
  unfold cutV cutD
  rw [r.length]
  exact (r.drop _).take _
theorem en_slL {tl th : TO} {ds : List D} {lo hi : Option Int} (h : EvR K te ρ cs (.lst ds)) (h1 : EvO K tl ρ cs lo) (h2 : EvO K th ρ cs hi) : EvN K (tSl (uSl K) te tl th) ρ cs (cutD ds lo hi) := fun G H σ w e Q q =>
  h G H σ w e _ fun v G2 H2 n r => h1 G2 H2 σ (w.step n) (e.mono n.g) _ fun G3 H3 n2 => h2 G3 H3 σ ((w.step n).step n2) ((e.mono n.g).mono n2.g) _ fun G4 H4 n3 => by
    have w4 := ((w.step n).step n2).step n3
    obtain ⟨a, vs, rfl, ha, ra⟩ := ((r.mono n2).mono n3).seqL w4
    refine .inl ⟨a, vs, rfl, .inl (.inl ha), fun p hp => ?_⟩
    have nn := (n.trans n2).trans n3
    exact q p _ G4 _ (nn.trans (Nx.newc nn.s hp)) (Evl.fresh_back nn.h hp) (Evl.fresh_back nn.s hp) upd_same (rep_cut ra lo hi)
theorem cutD_whole {ds : List D} {lo hi : Option Int} (h : HT.sIx ds.length 0 lo = 0 ∧ HT.sIx ds.length ds.length hi = ds.length) : cutD ds lo hi = ds := by
  unfold cutD
  rw [h.1, h.2]
  simp
theorem ev_slT {tl th : TO} {ds : List D} {lo hi : Option Int} (h : EvR K te ρ cs (.tup ds)) (h1 : EvO K tl ρ cs lo) (h2 : EvO K th ρ cs hi) : Ev K (tSl (uSl K) te tl th) ρ cs (.tup (cutD ds lo hi)) := fun G H σ w e Q q =>
  h G H σ w e _ fun v G2 H2 n r => h1 G2 H2 σ (w.step n) (e.mono n.g) _ fun G3 H3 n2 => h2 G3 H3 σ ((w.step n).step n2) ((e.mono n.g).mono n2.g) _ fun G4 H4 n3 => by
    have w4 := ((w.step n).step n2).step n3
    have nn := (n.trans n2).trans n3
    have r4 := (r.mono n2).mono n3
    obtain ⟨a, vs, rfl, ha, ra⟩ := r4.seqT w4
    refine .inr (.inl ⟨a, vs, rfl, ha, fun hw => ?_, fun _ p hp => ?_⟩)
    · rw [ra.length] at hw
      rw [cutD_whole hw] at q
      rcases r4 with r4 | ⟨c, ec, hc⟩
      · exact q _ G4 H4 nn r4
      · exact (w4.cell _ hc).2.elim
    · exact q (.ref p) _ _ (nn.trans (Nx.new nn.s hp)) (.tup (.inl upd_same) ((rep_cut ra lo hi).mono (Ex.new (Evl.fresh_back nn.s hp))))
theorem cd_lenL {ds : List D} : CallD K (uLen K) cs [.lst ds] (.int ds.length) := fun G H vs w r Q q => by
  cases r with
  | cons r0 r1 =>
    cases r1
    obtain ⟨a, us, rfl, ha, ra⟩ := r0.seqL w
    refine .inl ⟨a, us, rfl, .inl (.inl (.inl ha)), ?_⟩
    rw [ra.length]
    exact q _ G H (Nx.refl w.sub) (.int _)
theorem cd_lenT {ds : List D} : CallD K (uLen K) cs [.tup ds] (.int ds.length) := fun G H vs w r Q q => by
  cases r with
  | cons r0 r1 =>
    cases r1
    obtain ⟨a, us, rfl, ha, ra⟩ := r0.seqT w
    refine .inl ⟨a, us, rfl, .inr ha, ?_⟩
    rw [ra.length]
    exact q _ G H (Nx.refl w.sub) (.int _)
theorem cd_lenS {s : Str} (h : s.length ≤ 100000) : CallD K (uLen K) cs [.str s] (.int s.length) := fun G H vs w r Q q => by
  cases r with
  | cons r0 r1 =>
    cases r1
    cases r0.str w
    exact .inr ⟨s, rfl, sz h, q _ G H (Nx.refl w.sub) (.int _)⟩
theorem cd_int {i : Int} : CallD K uInt cs [.int i] (.int i) := fun G H vs w r Q q => by
  cases r with
  | cons r0 r1 =>
    cases r1
    cases r0.int w
    exact ⟨i, rfl, q _ G H (Nx.refl w.sub) (.int _)⟩
theorem cn_listL {ds : List D} : CallN K (uList K) cs [.lst ds] ds := fun G H vs w r Q q => by
  cases r with
  | cons r0 r1 =>
    cases r1
    obtain ⟨a, us, rfl, ha, ra⟩ := r0.seqL w
    exact ⟨a, us, rfl, .inl (.inl (.inl ha)), fun l hl => q l us G _ (Nx.newc w.sub hl) hl (Evl.fresh_back w.sub hl) upd_same ra⟩
theorem cn_listT {ds : List D} : CallN K (uList K) cs [.tup ds] ds := fun G H vs w r Q q => by
  cases r with
  | cons r0 r1 =>
    cases r1
    obtain ⟨a, us, rfl, ha, ra⟩ := r0.seqT w
    exact ⟨a, us, rfl, .inr ha, fun l hl => q l us G _ (Nx.newc w.sub hl) hl (Evl.fresh_back w.sub hl) upd_same ra⟩
theorem cd_tupL {ds : List D} : CallD K (uTuple K) cs [.lst ds] (.tup ds) := fun G H vs w r Q q => by
  cases r with
  | cons r0 r1 =>
    cases r1
    obtain ⟨a, us, rfl, ha, ra⟩ := r0.seqL w
    exact ⟨a, us, rfl, .inl ⟨.inl (.inl ha), fun l hl => q _ _ _ (Nx.new w.sub hl) (.tup (.inl upd_same) (ra.mono (Ex.new (Evl.fresh_back w.sub hl))))⟩⟩
theorem cd_tupT {ds : List D} : CallD K (uTuple K) cs [.tup ds] (.tup ds) := fun G H vs w r Q q => by
  cases r with
  | cons r0 r1 =>
    cases r1
    have r0' := r0
    obtain ⟨a, us, rfl, ha, ra⟩ := r0.seqT w
    refine ⟨a, us, rfl, .inr ⟨ha, ?_⟩⟩
    rcases r0' with r4 | ⟨c, ec, hc⟩
    · exact q _ G H (Nx.refl w.sub) r4
    · exact (w.cell _ hc).2.elim
end
end Lv

namespace Lv
open PySem L2
open Evl (Ex)
section
variable {K : PySem.W.Frag} {G G0 G1 G2 H H0 H1 H2 H3 G3 : Hp} {ρ : Ro} {cs : Cs} {ta tb te tx : TE} {tt tu : TT} {d d' e x y z : D}
/-! ### what is walked -/
/-- the iterator J gives ds; src: the cell that it walks -/
structure Its (K : PySem.W.Frag) (J : It) (G : Hp) (src : Cs) (ds : List D) : Prop where
  go : ∀ (i : Nat) (d : D) (G3 H3 : Hp) (cs3 : Cs), ds[i]? = some d → Ex G G3 → Wl K G3 H3 cs3 → (∀ c ∈ src, c ∈ cs3) → J.go i H3 ∧ ∀ x H', J.yld i H3 x H' → ∃ G4, Nx G3 H3 G4 H' ∧ Rep K G4 x d
  stop : ∀ (i : Nat) (G3 H3 : Hp) (cs3 : Cs), ds.length ≤ i → Ex G G3 → Wl K G3 H3 cs3 → (∀ c ∈ src, c ∈ cs3) → J.stop i H3
def EvI (K : PySem.W.Frag) (wi : TI) (ρ : Ro) (cs src : Cs) (ds : List D) : Prop := ∀ G H σ, Wl K G H cs → Env K G σ ρ → ∀ R : It → Hp → Prop, (∀ J G2 H2, Nx G H G2 H2 → (∀ c ∈ src, c ∈ cs) → Its K J G2 src ds → R J H2) → wi σ H R
theorem EvI.of {wi : TI} {src : Cs} {ds ds' : List D} (h : EvI K wi ρ cs src ds) (e : ds = ds') : EvI K wi ρ cs src ds' := e ▸ h
/-- a list or a tuple -/
def iSeq (K : PySem.W.Frag) (tl : TE) : TI := fun σ H R => iList K tl σ H R ∨ iTup K tl σ H R
theorem _root_.L2.PI.or {X : Cx} {tg iter : Expr} {w w' : TI} (h : PI X tg iter w) (h' : PI X tg iter w') : PI X tg iter (fun σ H R => w σ H R ∨ w' σ H R) := ⟨fun pins s σ H R I q => by
  rcases q with q | q
  · exact h.run pins s σ H R I q
  · exact h'.run pins s σ H R I q⟩
theorem its_listP {a : Addr} {vs : List V} {ds : List D} (h : G a = some (.lst vs)) (r : RepL K G vs ds) : Its K (Itl K a) G [] ds := ⟨fun i d G3 H3 cs3 hd x w3 _ => by
  obtain ⟨u, hu, ru⟩ := r.get hd
  have hL : SqL K H3 a vs := .inl (.inl (w3.sub _ _ (x _ _ h)))
  refine ⟨⟨vs, u, hL, hu⟩, fun y H' hy => ?_⟩
  obtain ⟨rfl, hy⟩ := hy
  have e := (hy _ hL).symm.trans hu
  cases e
  exact ⟨G3, Nx.refl w3.sub, ru.mono x⟩, fun i G3 H3 cs3 hi x w3 _ => ⟨vs, .inl (.inl (w3.sub _ _ (x _ _ h))), by rw [r.length]; exact hi⟩⟩
theorem its_listC {a : Addr} {ds : List D} : Its K (Itl K a) G [(a, .lst ds)] ds := ⟨fun i d G3 H3 cs3 hd x w3 hs => by
  obtain ⟨_, us, e3, r3⟩ := w3.cell _ (hs (a, .lst ds) (by simp))
  obtain ⟨u, hu, ru⟩ := r3.get hd
  have hL : SqL K H3 a us := .inl (.inl e3)
  refine ⟨⟨us, u, hL, hu⟩, fun y H' hy => ?_⟩
  obtain ⟨rfl, hy⟩ := hy
  have e := (hy _ hL).symm.trans hu
  cases e
  exact ⟨G3, Nx.refl w3.sub, ru⟩, fun i G3 H3 cs3 hi x w3 hs => by
  obtain ⟨_, us, e3, r3⟩ := w3.cell _ (hs (a, .lst ds) (by simp))
  exact ⟨us, .inl (.inl e3), by rw [r3.length]; exact hi⟩⟩
theorem no_src {cs : Cs} : ∀ c ∈ ([] : Cs), c ∈ cs := fun c hc => by simp at hc
theorem ei_list {tl : TE} {ds : List D} (h : Ev K tl ρ cs (.lst ds)) : EvI K (iList K tl) ρ cs [] ds := fun G H σ w e R q => h G H σ w e _ fun v G2 H2 n r => by
  cases r with
  | lst hg r => exact ⟨_, rfl, ⟨_, .inl (.inl (n.s _ _ hg))⟩, q _ G2 H2 n no_src (its_listP hg r)⟩
theorem ei_cell {tl : TE} {a : Addr} {ds : List D} (h : Ev K tl ρ cs (.any (.ref a))) (hc : (a, .lst ds) ∈ cs) : EvI K (iList K tl) ρ cs [(a, .lst ds)] ds := fun G H σ w e R q => h G H σ w e _ fun v G2 H2 n r => by
  cases r
  obtain ⟨_, us, e3, r3⟩ := (w.step n).cell _ hc
  exact ⟨_, rfl, ⟨us, .inl (.inl e3)⟩, q _ G2 H2 n (fun c h => by rw [List.mem_singleton] at h; rw [h]; exact hc) its_listC⟩
theorem ei_tup {tl : TE} {ds : List D} (h : Ev K tl ρ cs (.tup ds)) : EvI K (iTup K tl) ρ cs [] ds := fun G H σ w e R q => h G H σ w e _ fun v G2 H2 n r => by
  cases r with
  | @tup a vs _ h r =>
    refine ⟨a, rfl, ⟨vs, Evl.ex_t n.s h.sq⟩, q _ G2 H2 n no_src ⟨fun i d G3 H3 cs3 hd x w3 _ => ?_, fun i G3 H3 cs3 hi x w3 _ => ?_⟩⟩
    · obtain ⟨u, hu, ru⟩ := r.get hd
      have hL : SqT K H3 a vs := Evl.ex_t (x.trans w3.sub) h.sq
      refine ⟨⟨vs, u, hL, hu⟩, fun y H' hy => ?_⟩
      obtain ⟨rfl, hy⟩ := hy
      have e := (hy _ hL).symm.trans hu
      cases e
      exact ⟨G3, Nx.refl w3.sub, ru.mono x⟩
    · exact ⟨vs, Evl.ex_t (x.trans w3.sub) h.sq, by rw [r.length]; exact hi⟩
theorem ei_seqL {tl : TE} {ds : List D} (h : Ev K tl ρ cs (.lst ds)) : EvI K (iSeq K tl) ρ cs [] ds := fun G H σ w e R q => .inl (ei_list h G H σ w e R q)
theorem ei_seqC {tl : TE} {a : Addr} {ds : List D} (h : Ev K tl ρ cs (.any (.ref a))) (hc : (a, .lst ds) ∈ cs) : EvI K (iSeq K tl) ρ cs [(a, .lst ds)] ds := fun G H σ w e R q => .inl (ei_cell h hc G H σ w e R q)
theorem ei_seqT {tl : TE} {ds : List D} (h : Ev K tl ρ cs (.tup ds)) : EvI K (iSeq K tl) ρ cs [] ds := fun G H σ w e R q => .inr (ei_tup h G H σ w e R q)
theorem ei_rng1 {t : TA} {n : Nat} (h : EvA K t ρ cs [.int (n : Int)]) (hn : n ≤ 100000) : EvI K (iRng1 t) ρ cs [] ((List.range n).map fun (i : Nat) => D.int (i : Int)) := fun G H σ w e R q => h G H σ w e _ fun vs G2 H2 nx r => by
  cases r with
  | cons r0 r1 =>
    cases r1
    cases r0
    refine ⟨(n : Int), rfl, by omega, by omega, q _ G2 H2 nx no_src ⟨fun i d G3 H3 cs3 hd x w3 _ => ?_, fun i G3 H3 cs3 hi x w3 _ => ?_⟩⟩
    · rw [List.getElem?_map] at hd
      have hi : i < n := by
        cases hr : (List.range n)[i]? with
        | none => rw [hr] at hd; cases hd
        | some u =>
          have := (List.getElem?_eq_some_iff.mp hr).1
          simpa using this
      rw [List.getElem?_range hi] at hd
      cases hd
      refine ⟨by show i < (n : Int).toNat; omega, fun y H' hy => ?_⟩
      obtain ⟨rfl, rfl⟩ := hy
      refine ⟨G3, Nx.refl w3.sub, ?_⟩
      rw [Int.zero_add]
      exact .int _
    · rw [List.length_map, List.length_range] at hi
      show (n : Int).toNat ≤ i
      omega
theorem ei_rng2 {t : TA} {lo hi : Int} (h : EvA K t ρ cs [.int lo, .int hi]) (hn : -100000 ≤ lo ∧ lo ≤ 100000 ∧ -100000 ≤ hi ∧ hi ≤ 100000) : EvI K (iRng2 t) ρ cs [] ((List.range (hi - lo).toNat).map fun (i : Nat) => D.int (lo + (i : Int))) := fun G H σ w e R q => h G H σ w e _ fun vs G2 H2 nx r => by
  cases r with
  | cons r0 r1 =>
    cases r1 with
    | cons r2 r3 =>
    cases r3
    cases r0
    cases r2
    refine ⟨lo, hi, rfl, ⟨by omega, by omega, by omega, by omega⟩, q _ G2 H2 nx no_src ⟨fun i d G3 H3 cs3 hd x w3 _ => ?_, fun i G3 H3 cs3 hi x w3 _ => ?_⟩⟩
    · rw [List.getElem?_map] at hd
      have hi : i < (hi - lo).toNat := by
        cases hr : (List.range (hi - lo).toNat)[i]? with
        | none => rw [hr] at hd; cases hd
        | some u =>
          have := (List.getElem?_eq_some_iff.mp hr).1
          simpa using this
      rw [List.getElem?_range hi] at hd
      cases hd
      refine ⟨hi, fun y H' hy => ?_⟩
      obtain ⟨rfl, rfl⟩ := hy
      exact ⟨G3, Nx.refl w3.sub, .int _⟩
    · rw [List.length_map, List.length_range] at hi
      exact hi

/-! ### targets -/
structure Sets (σ σ2 : L2.St) (js : List Nat) : Prop where
  len : σ2.length = σ.length
  out : ∀ i, i ∉ js → σ2[i]? = σ[i]?
def EvG (K : PySem.W.Frag) (g : TG) (d : D) (ρ : Ro) (ρ' : Ro) (js : List Nat) : Prop := ∀ G H σ v, Ex G H → Env K G σ ρ → Rep K G v d → ∀ Q : L2.St → Hp → Prop, (∀ σ2, Env K G σ2 ρ' → Sets σ σ2 js → Q σ2 H) → g v σ H Q
def EvGs (K : PySem.W.Frag) (g : TGs) (ds : List D) (ρ : Ro) (ρ' : Ro) (js : List Nat) : Prop := ∀ G H σ vs, Ex G H → Env K G σ ρ → RepL K G vs ds → ∀ Q : L2.St → Hp → Prop, (∀ σ2, Env K G σ2 ρ' → Sets σ σ2 js → Q σ2 H) → g vs σ H Q
theorem eg_name {j : Nat} : EvG K (gName j) d ρ (ρ.set j (some d)) [j] := fun G H σ v s e r Q q => q _ (e.set j r) ⟨List.length_set, fun i hi => by
  rw [List.mem_singleton] at hi
  exact List.getElem?_set_ne (fun z => hi z.symm)⟩
theorem egs_nil : EvGs K gNil [] ρ ρ [] := fun G H σ vs s e r Q q => by
  cases r
  exact ⟨rfl, q σ e ⟨rfl, fun _ _ => rfl⟩⟩
theorem egs_cons {g : TG} {gs : TGs} {ds : List D} {ρ1 ρ2 : Ro} {js js' : List Nat} (h : EvG K g d ρ ρ1 js) (hs : EvGs K gs ds ρ1 ρ2 js') : EvGs K (gCons g gs) (d :: ds) ρ ρ2 (js ++ js') := fun G H σ vs s e r Q q => by
  cases r with
  | cons r0 r1 =>
    refine ⟨_, _, rfl, h G H σ _ s e r0 _ fun σ2 e2 s2 => hs G H σ2 _ s e2 r1 _ fun σ3 e3 s3 => q σ3 e3 ⟨s3.len.trans s2.len, fun i hi => ?_⟩⟩
    rw [List.mem_append, not_or] at hi
    rw [s3.out i hi.2, s2.out i hi.1]
theorem eg_tup {gs : TGs} {ds : List D} {ρ1 : Ro} {js : List Nat} {n : Nat} (h : EvGs K gs ds ρ ρ1 js) (hn : ds.length = n) : EvG K (gTup K n gs) (.tup ds) ρ ρ1 js := fun G H σ v s e r Q q => by
  cases r with
  | tup hs rs => exact ⟨_, _, rfl, Evl.ex_t s hs.sq, by rw [rs.length]; exact hn, h G H σ _ s e rs Q q⟩
theorem wipe_at {σ : L2.St} {i : Nat} : ∀ {vs : List Nat}, (wipe σ vs)[i]? = if i ∈ vs ∧ i < σ.length then some none else σ[i]?
  | [] => by simp [wipe]
  | v :: vs => by
    rw [wipe, List.getElem?_set, wipe_length, wipe_at (vs := vs)]
    by_cases h : v = i
    · subst h
      by_cases hl : v < σ.length
      · simp [hl]
      · simp [hl]
    · have h' : ¬ i = v := fun z => h z.symm
      simp [h, h']
theorem wipe_eq {σ σ2 : L2.St} {vs js : List Nat} (s : Sets (wipe σ vs) σ2 js) (hj : ∀ j ∈ js, j ∈ vs) : wipe σ2 vs = wipe σ vs := by
  apply List.ext_getElem?
  intro i
  rw [wipe_at, s.len, wipe_length]
  by_cases h : i ∈ vs
  · rw [wipe_at]
    by_cases hl : i < σ.length
    · simp [h, hl]
    · rw [if_neg (by omega), if_neg (by omega), List.getElem?_eq_none (by rw [s.len, wipe_length]; omega), List.getElem?_eq_none (by omega)]
  · rw [if_neg (fun z => h z.1), s.out i (fun z => h (hj i z))]

/-! ### comprehensions -/
theorem Nx.mutate {p : Addr} {o : HO} (n : Nx G H G2 H2) (hp : H p = none) (gp : G2 p = none) : Nx G H G2 (upd H2 p o) := ⟨n.g, n.h.mut hp, fun a u e => by
  rw [upd_ne (ne_of_none e gp)]
  exact n.s a u e, n.f⟩
theorem Nx.keepN {p : Addr} {o : HO} (n : Nx G H G2 H2) (hp : H p = some o) (gp : G p = none) : G2 p = none := by
  cases e : G2 p with
  | none => rfl
  | some u =>
    rw [n.f p u e gp] at hp
    cases hp
def LcI (K : PySem.W.Frag) (G1 H1 : Hp) (Dl : Addr) (ds : List D) (Hc : Hp) : Prop := ∃ Gc us, Nx G1 H1 Gc Hc ∧ Gc Dl = none ∧ Hc Dl = some (.lst us) ∧ RepL K Gc us ds
theorem lc_turn {Hc : Hp} {Dl : Addr} {ds : List D} {b : Bool} {v : D} {J : It} {src : Cs} {its0 : List D} {i : Nat} {σ : L2.St} {g : TG} {vs js : List Nat} {ρ1 : Ro} {Nxt : List D → Hp → Prop} (w1 : Wl K G1 H1 cs) (e1 : Env K G1 (wipe σ vs) (wipeD ρ vs)) (hDl : H1 Dl = none)
    (its : Its K J G1 src its0) (hsrc : ∀ c ∈ src, c ∈ cs) (hi : its0[i]? = some d) (inv : LcI K G1 H1 Dl ds Hc) (hg : EvG K g d (wipeD ρ vs) ρ1 js) (hj : ∀ j ∈ js, j ∈ vs)
    (ht : EvT K tt ρ1 cs b) (he : b = true → Ev K te ρ1 cs v) (hl : ds.length < 100000)
    (hn1 : b = true → ∀ Hn, LcI K G1 H1 Dl (ds ++ [v]) Hn → Nxt (ds ++ [v]) Hn) (hn2 : b = false → ∀ Hn, LcI K G1 H1 Dl ds Hn → Nxt ds Hn) :
    J.go i Hc ∧ ∀ x H', J.yld i Hc x H' → g x (wipe σ vs) H' fun σ2 H2 => wipe σ2 vs = wipe σ vs ∧ tt σ2 H2 fun b' H3 =>
      if b' = true then te σ2 H3 fun y H4 => ∃ acc, H4 Dl = some (.lst acc) ∧ acc.length < sizeLine ∧ Nxt (ds ++ [v]) (upd H4 Dl (.lst (acc ++ [y]))) else Nxt ds H3 := by
  obtain ⟨Gc, us, n, gD, hD, rl⟩ := inv
  have wc := w1.step n
  obtain ⟨go, yl⟩ := its.go i d Gc Hc cs hi n.g wc hsrc
  refine ⟨go, fun x H' hy => ?_⟩
  obtain ⟨G4, n4, rx⟩ := yl x H' hy
  refine hg G4 H' (wipe σ vs) x n4.s ((e1.mono n.g).mono n4.g) rx _ fun σ2 e2 s2 => ⟨wipe_eq s2 hj, ?_⟩
  have w4 := wc.step n4
  refine ht G4 H' σ2 w4 e2 _ fun G5 H5 n5 => ?_
  have gD5 : G5 Dl = none := (n4.trans n5).keepN hD gD
  have hD5 : H5 Dl = some (.lst us) := (n4.trans n5).h _ _ hD
  cases b with
  | false => exact hn2 rfl H5 ⟨G5, us, (n.trans n4).trans n5, gD5, hD5, rl.mono (n4.trans n5).g⟩
  | true =>
    refine he rfl G5 H5 σ2 (w4.step n5) (e2.mono n5.g) _ fun y G6 H6 n6 ry => ?_
    have gD6 : G6 Dl = none := n6.keepN hD5 gD5
    refine ⟨us, n6.h _ _ hD5, by rw [rl.length]; exact Evl.sz_lt hl, hn1 rfl _ ⟨G6, us ++ [y], ((((n.trans n4).trans n5).trans n6).mutate hDl gD6), gD6, upd_same, ?_⟩⟩
    exact (rl.mono ((n4.trans n5).trans n6).g).append (.one ry)
theorem en_lc {α : Type} {xs : List α} {enc : α → D} {wi : TI} {g : TG} {vs js : List Nat} {src : Cs} {f : α → Bool} {v : α → D} {ρ' : α → Ro} (hi : EvI K wi ρ cs src (xs.map enc)) (hg : ∀ a ∈ xs, EvG K g (enc a) (wipeD ρ vs) (ρ' a) js) (hj : ∀ j ∈ js, j ∈ vs)
    (ht : ∀ a ∈ xs, EvT K tt (ρ' a) cs (f a)) (he : ∀ a ∈ xs, f a = true → Ev K te (ρ' a) cs (v a)) (hl : xs.length ≤ 100000) : EvN K (tLc wi g tt te vs) ρ cs ((xs.filter f).map v) := fun G H σ w e Q q =>
  hi G H σ w e _ fun J G1 H1 n1 hsrc its Dl hDl => by
    have w1 := w.step n1
    have e1 : Env K G1 (wipe σ vs) (wipeD ρ vs) := (e.mono n1.g).wipe vs
    refine ⟨fun i m Hc => m = xs.length - i ∧ i ≤ xs.length ∧ LcI K G1 H1 Dl (((xs.take i).filter f).map v) Hc, ⟨xs.length, rfl, Nat.zero_le _, G1, [], Nx.newc w1.sub hDl, Evl.fresh_back w1.sub hDl, upd_same, .nil⟩, fun i m Hc hW => ?_⟩
    obtain ⟨rfl, hle, inv⟩ := hW
    by_cases hlt : i < xs.length
    · have hmem : xs[i] ∈ xs := List.getElem_mem hlt
      have hat : (xs.map enc)[i]? = some (enc xs[i]) := by rw [List.getElem?_map, List.getElem?_eq_getElem hlt]; rfl
      have hlen : (((xs.take i).filter f).map v).length < 100000 := by
        rw [List.length_map]
        have := List.length_filter_le f (xs.take i)
        rw [List.length_take] at this
        omega
      have tk : xs.take (i + 1) = xs.take i ++ [xs[i]] := by rw [List.take_add_one, List.getElem?_eq_getElem hlt]; rfl
      refine .inr ?_
      have key := lc_turn (Nxt := fun ds Hn => LcI K G1 H1 Dl (((xs.take (i + 1)).filter f).map v) Hn) w1 e1 hDl its hsrc hat inv (hg _ hmem) hj (ht _ hmem) (he _ hmem) hlen
        (fun hb Hn h => by
          have e2 : ((xs.take (i + 1)).filter f).map v = ((xs.take i).filter f).map v ++ [v xs[i]] := by
            rw [tk, List.filter_append, List.filter_cons_of_pos hb, List.filter_nil, List.map_append]
            rfl
          rw [e2]
          exact h)
        (fun hb Hn h => by
          have e2 : ((xs.take (i + 1)).filter f).map v = ((xs.take i).filter f).map v := by
            rw [tk, List.filter_append, List.filter_cons_of_neg (by rw [hb]; decide), List.filter_nil, List.append_nil]
          rw [e2]
          exact h)
      exact ⟨key.1, fun Hn => LcI K G1 H1 Dl (((xs.take (i + 1)).filter f).map v) Hn, fun H' h => ⟨xs.length - (i + 1), by omega, rfl, by omega, h⟩, key.2⟩
    · obtain ⟨Gc, us, n, gD, hD, rl⟩ := inv
      refine .inl ⟨its.stop i Gc Hc cs (by rw [List.length_map]; omega) n.g (w1.step n) hsrc, ?_⟩
      rw [List.take_of_length_le (by omega)] at rl
      exact q Dl us Gc Hc (n1.trans n) (Evl.fresh_back n1.h hDl) gD hD rl
theorem en_map {α : Type} {xs : List α} {enc : α → D} {wi : TI} {g : TG} {vs js : List Nat} {src : Cs} {v : α → D} {ρ' : α → Ro} (hi : EvI K wi ρ cs src (xs.map enc)) (hg : ∀ a ∈ xs, EvG K g (enc a) (wipeD ρ vs) (ρ' a) js) (hj : ∀ j ∈ js, j ∈ vs)
    (he : ∀ a ∈ xs, Ev K te (ρ' a) cs (v a)) (hl : xs.length ≤ 100000) : EvN K (tLc wi g tYes te vs) ρ cs (xs.map v) := by
  have h := en_lc (f := fun _ => true) (v := v) hi hg hj (fun _ _ => et_yes) (fun a ha _ => he a ha) hl
  rw [List.filter_eq_self.mpr (fun _ _ => rfl)] at h
  exact h
end
end Lv

namespace Lv
open PySem L2
open Evl (Ex)
/-- from the entry (G0, H0) on: bs: the caller's cells that may change -/
structure Rl (K : PySem.W.Frag) (G0 H0 : Hp) (bs : List Addr) (G H : Hp) (cs : Cs) : Prop where
  wl : Wl K G H cs
  g0 : Ex G0 G
  h0 : ∀ a o, H0 a = some o → a ∉ bs → H a = some o
  nw : ∀ a o, G a = some o → G0 a = none → H0 a = none
  cl : ∀ c ∈ cs, c.1 ∈ bs ∨ H0 c.1 = none
  bd : ∀ b ∈ bs, ∃ o, H b = some o
  b0 : ∀ b ∈ bs, ∃ o, H0 b = some o
/-- an exception: its class, its own fields -/
def Xr (K : PySem.W.Frag) (G H : Hp) (dd : Option Addr) (fs : Option (List (Str × D))) : Prop := match fs with
  | none => dd = none
  | some fs => ∃ (p : Addr) (vs : List (Str × V)), dd = some p ∧ H p = some (.xd vs) ∧ RepF K G vs fs
/-- the exception's own dict is new -/
def Xn (H0 G : Hp) (cs : Cs) (dd : Option Addr) : Prop := ∀ p, dd = some p → H0 p = none ∧ G p = none ∧ ∀ c ∈ cs, c.1 ≠ p
structure Po where
  nx : Ro → Cs → Prop
  rt : D → Cs → Prop
  bk : Ro → Cs → Prop := fun _ _ => False
  ct : Ro → Cs → Prop := fun _ _ => False
  ex : Ro → Cs → Value → Option (List (Str × D)) → Prop := fun _ _ _ _ => False
structure Ok (K : PySem.W.Frag) (G0 H0 : Hp) (bs : List Addr) (E : Ends) (W : WX) (P : Po) : Prop where
  nx : ∀ G H σ ρ cs, Rl K G0 H0 bs G H cs → Env K G σ ρ → P.nx ρ cs → E.nx σ H
  rt : ∀ G H v d cs, Rl K G0 H0 bs G H cs → Rep K G v d → P.rt d cs → E.rt v H
  bk : ∀ G H σ ρ cs, Rl K G0 H0 bs G H cs → Env K G σ ρ → P.bk ρ cs → E.bk σ H
  ct : ∀ G H σ ρ cs, Rl K G0 H0 bs G H cs → Env K G σ ρ → P.ct ρ cs → E.ct σ H
  ex : ∀ G H σ ρ cs cls dd fs, Rl K G0 H0 bs G H cs → Env K G σ ρ → Xr K G H dd fs → Xn H0 G cs dd → P.ex ρ cs cls fs → W cls dd σ H
def Sv (K : PySem.W.Frag) (W : WX) (bs : List Addr) (ts : TS) (ρ : Ro) (cs : Cs) (P : Po) : Prop := ∀ G0 H0 G H σ E, Rl K G0 H0 bs G H cs → Env K G σ ρ → Ok K G0 H0 bs E W P → ts E σ H
section
variable {K : PySem.W.Frag} {G G0 G1 G2 H H0 H1 H2 H3 G3 : Hp} {ρ ρ1 : Ro} {cs : Cs} {ta tb te tx : TE} {tt : TT} {d d' e x y z : D} {W : WX} {bs : List Addr} {P : Po} {t u : TS}
theorem Rl.step (r : Rl K G0 H0 bs G H cs) (n : Nx G H G2 H2) : Rl K G0 H0 bs G2 H2 cs := ⟨r.wl.step n, r.g0.trans n.g, fun a o h hb => n.h _ _ (r.h0 a o h hb), fun a o e z => by
  cases h : G a with
  | none =>
    have hn := n.f a o e h
    cases h0 : H0 a with
    | none => rfl
    | some u =>
      by_cases hb : a ∈ bs
      · obtain ⟨o', ho⟩ := r.bd a hb
        rw [hn] at ho
        cases ho
      · rw [r.h0 a u h0 hb] at hn
        cases hn
  | some u => exact r.nw a u h z, r.cl, fun b hb => by
    obtain ⟨o, ho⟩ := r.bd b hb
    exact ⟨o, n.h _ _ ho⟩, r.b0⟩
theorem Sv.le {ρ' : Ro} (h : Sv K W bs t ρ' cs P) (l : le ρ' ρ) : Sv K W bs t ρ cs P := fun G0 H0 G H σ E r e o => h G0 H0 G H σ E r (e.le l) o
theorem sv_seq (h : Sv K W bs t ρ cs { P with nx := fun ρ' cs' => Sv K W bs u ρ' cs' P }) : Sv K W bs (tSeq t u) ρ cs P := fun G0 H0 G H σ E r e o =>
  h G0 H0 G H σ { E with nx := u E } r e ⟨fun G H σ ρ cs r e k => k G0 H0 G H σ E r e o, o.rt, o.bk, o.ct, o.ex⟩
theorem sv_next (h : P.nx ρ cs) : Sv K W bs tNext ρ cs P := fun G0 H0 G H σ E r e o => o.nx G H σ ρ cs r e h
theorem sv_break (h : P.bk ρ cs) : Sv K W bs tBreak ρ cs P := fun G0 H0 G H σ E r e o => o.bk G H σ ρ cs r e h
theorem sv_cont (h : P.ct ρ cs) : Sv K W bs tCont ρ cs P := fun G0 H0 G H σ E r e o => o.ct G H σ ρ cs r e h
theorem sv_asg {g : TG} {js : List Nat} (h : Ev K te ρ cs d) (hg : EvG K g d ρ ρ1 js) (k : P.nx ρ1 cs) : Sv K W bs (tAsg te g) ρ cs P := fun G0 H0 G H σ E r e o =>
  h G H σ r.wl e _ fun v G2 H2 n rv => hg G2 H2 σ v n.s (e.mono n.g) rv _ fun σ2 e2 _ => o.nx G2 H2 σ2 ρ1 cs (r.step n) e2 k
theorem sv_set {i : Nat} (h : Ev K te ρ cs d) (k : P.nx (ρ.set i (some d)) cs) : Sv K W bs (tAsg te (gName i)) ρ cs P := sv_asg h eg_name k
theorem Rl.newCell {p : Addr} {vs : List V} {ds : List D} (r : Rl K G0 H0 bs G H cs) (hp0 : H0 p = none) (gp : G p = none) (hp : H p = some (.lst vs)) (rl : RepL K G vs ds) (hc : ∀ c ∈ cs, c.1 ≠ p) : Rl K G0 H0 bs G H ((p, .lst ds) :: cs) :=
  ⟨⟨r.wl.sub, fun c h => by
    rcases List.mem_cons.mp h with rfl | h
    · exact ⟨gp, vs, hp, rl⟩
    · exact r.wl.cell c h, by
    rw [List.map_cons, List.nodup_cons]
    refine ⟨fun h => ?_, r.wl.nd⟩
    obtain ⟨c, h1, h2⟩ := List.mem_map.mp h
    exact hc c h1 h2⟩, r.g0, r.h0, r.nw, fun c h => by
    rcases List.mem_cons.mp h with rfl | h
    · exact .inr hp0
    · exact r.cl c h, r.bd, r.b0⟩
theorem Rl.none0 {p : Addr} (r : Rl K G0 H0 bs G H cs) (hp : H p = none) : H0 p = none ∧ p ∉ bs ∧ ∀ c ∈ cs, c.1 ≠ p := by
  have hb : p ∉ bs := fun h => by
    obtain ⟨o, ho⟩ := r.bd p h
    rw [hp] at ho
    cases ho
  refine ⟨?_, hb, fun c hc z => ?_⟩
  · cases h : H0 p with
    | none => rfl
    | some o =>
      rw [r.h0 p o h hb] at hp
      cases hp
  · obtain ⟨o, ho⟩ := (r.wl.cell c hc).2.some
    rw [z, hp] at ho
    cases ho
theorem sv_setN {i : Nat} {ds : List D} (h : EvN K te ρ cs ds) (k : ∀ a, a ∉ bs → (∀ c ∈ cs, c.1 ≠ a) → P.nx (ρ.set i (some (.any (.ref a)))) ((a, .lst ds) :: cs)) : Sv K W bs (tAsg te (gName i)) ρ cs P := fun G0 H0 G H σ E r e o =>
  h G H σ r.wl e _ fun p vs G2 H2 n hp gp h2 rl => by
    obtain ⟨a1, a2, a3⟩ := r.none0 hp
    exact o.nx G2 H2 _ _ _ ((r.step n).newCell a1 gp h2 rl a3) ((e.mono n.g).set i (.any _)) (k p a2 a3)
theorem sv_ret (h : Ev K te ρ cs d) (k : P.rt d cs) : Sv K W bs (tRet te) ρ cs P := fun G0 H0 G H σ E r e o =>
  h G H σ r.wl e _ fun v G2 H2 n rv => o.rt G2 H2 v d cs (r.step n) rv k
theorem sv_retN {ds : List D} (h : EvN K te ρ cs ds) (k : ∀ a, a ∉ bs → (∀ c ∈ cs, c.1 ≠ a) → P.rt (.any (.ref a)) ((a, .lst ds) :: cs)) : Sv K W bs (tRet te) ρ cs P := fun G0 H0 G H σ E r e o =>
  h G H σ r.wl e _ fun p vs G2 H2 n hp gp h2 rl => by
    obtain ⟨a1, a2, a3⟩ := r.none0 hp
    exact o.rt G2 H2 _ _ _ ((r.step n).newCell a1 gp h2 rl a3) (.any _) (k p a2 a3)
theorem sv_retNone (k : P.rt .non cs) : Sv K W bs tRetN ρ cs P := fun G0 H0 G H σ E r e o => o.rt G H .non .non cs r .non k
theorem sv_if {b : Bool} (h : EvT K tt ρ cs b) (h1 : b = true → Sv K W bs t ρ cs P) (h2 : b = false → Sv K W bs u ρ cs P) : Sv K W bs (tIfS tt t u) ρ cs P := fun G0 H0 G H σ E r e o =>
  h G H σ r.wl e _ fun G2 H2 n => by
    cases b with
    | true => exact h1 rfl G0 H0 G2 H2 σ E (r.step n) (e.mono n.g) o
    | false => exact h2 rfl G0 H0 G2 H2 σ E (r.step n) (e.mono n.g) o
theorem sv_drop (h : Ev K te ρ cs d) (k : P.nx ρ cs) : Sv K W bs (tDrop te) ρ cs P := fun G0 H0 G H σ E r e o =>
  h G H σ r.wl e _ fun v G2 H2 n rv => o.nx G2 H2 σ ρ cs (r.step n) (e.mono n.g) k
theorem sv_aug {i : Nat} {f : Int → Int → Int} {a b : Int} (hx : ρ[i]? = some (some (.int a))) (h : Ev K te ρ cs (.int b)) (k : P.nx (ρ.set i (some (.int (f a b)))) cs) : Sv K W bs (tAug i te (ipI f)) ρ cs P := fun G0 H0 G H σ E r e o => by
  obtain ⟨v, hv, rv⟩ := e.at_ i _ hx
  cases rv
  exact ⟨_, hv, h G H σ r.wl e _ fun v G2 H2 n rv => by
    cases rv
    exact ⟨a, b, rfl, rfl, o.nx G2 H2 _ _ cs (r.step n) ((e.mono n.g).set i (.int _)) k⟩⟩
/-! ### cells change -/
def setC (a : Addr) (d : D) : Cs → Cs
  | [] => []
  | c :: cs => if c.1 = a then (a, d) :: cs else c :: setC a d cs
theorem setC_fst (a : Addr) (d : D) : ∀ cs : Cs, (setC a d cs).map (·.1) = cs.map (·.1)
  | [] => rfl
  | c :: cs => by
    rw [setC]
    by_cases h : c.1 = a
    · rw [if_pos h, List.map_cons, List.map_cons, h]
    · rw [if_neg h, List.map_cons, List.map_cons, setC_fst a d cs]
theorem mem_setC {a : Addr} {d : D} {c : Addr × D} : ∀ {cs : Cs}, (cs.map (·.1)).Nodup → c ∈ setC a d cs → c = (a, d) ∨ (c ∈ cs ∧ c.1 ≠ a)
  | [], _, h => by simp [setC] at h
  | b :: cs, nd, h => by
    rw [List.map_cons, List.nodup_cons] at nd
    rw [setC] at h
    by_cases hb : b.1 = a
    · rw [if_pos hb] at h
      rcases List.mem_cons.mp h with h | h
      · exact .inl h
      · refine .inr ⟨List.mem_cons_of_mem _ h, fun z => nd.1 ?_⟩
        rw [hb, ← z]
        exact List.mem_map.mpr ⟨c, h, rfl⟩
    · rw [if_neg hb] at h
      rcases List.mem_cons.mp h with h | h
      · subst h
        exact .inr ⟨List.mem_cons_self, hb⟩
      · rcases mem_setC nd.2 h with h | h
        · exact .inl h
        · exact .inr ⟨List.mem_cons_of_mem _ h.1, h.2⟩
theorem Cell.upd_ne {a b : Addr} {o : HO} (h : Cell K G H a d) (hne : a ≠ b) : Cell K G (upd H b o) a d := by
  cases d with
  | lst ds => obtain ⟨vs, e, r⟩ := h; exact ⟨vs, by rw [L2.upd_ne hne]; exact e, r⟩
  | obj C fs => obtain ⟨dx, vs, e, r⟩ := h; exact ⟨dx, vs, by rw [L2.upd_ne hne]; exact e, r⟩
  | xdc fs => obtain ⟨vs, e, r⟩ := h; exact ⟨vs, by rw [L2.upd_ne hne]; exact e, r⟩
  | dik ds => obtain ⟨vs, e, k, r⟩ := h; exact ⟨vs, by rw [L2.upd_ne hne]; exact e, k, r⟩
  | dit ds => obtain ⟨vs, e, k, r⟩ := h; exact ⟨vs, by rw [L2.upd_ne hne]; exact e, k, r⟩
  | dix w ds => obtain ⟨xs, us, e, k, r⟩ := h; exact ⟨xs, us, by rw [L2.upd_ne hne]; exact e, k, r⟩
  | sit w ds => obtain ⟨xs, e, k, l, r⟩ := h; exact ⟨xs, by rw [L2.upd_ne hne]; exact e, k, l, r⟩
  | _ => exact h.elim
/-- the cell a gets o, which is d' -/
theorem Rl.write {a : Addr} {o : HO} (r : Rl K G0 H0 bs G H cs) (hc : (a, d) ∈ cs) (ho : Cell K G (upd H a o) a d') : Rl K G0 H0 bs G (upd H a o) (setC a d' cs) := by
  have ga := (r.wl.cell _ hc).1
  refine ⟨⟨fun b u e => ?_, fun c h => ?_, by rw [setC_fst]; exact r.wl.nd⟩, r.g0, fun b u e hb => ?_, r.nw, fun c h => ?_, fun b hb => ?_, r.b0⟩
  · rw [L2.upd_ne (ne_of_none e ga)]
    exact r.wl.sub b u e
  · rcases mem_setC r.wl.nd h with rfl | ⟨h1, h2⟩
    · exact ⟨ga, ho⟩
    · exact ⟨(r.wl.cell c h1).1, (r.wl.cell c h1).2.upd_ne h2⟩
  · have hne : b ≠ a := fun z => by
      subst z
      rcases r.cl _ hc with h | h
      · exact hb h
      · rw [show H0 b = none from h] at e
        cases e
    rw [L2.upd_ne hne]
    exact r.h0 b u e hb
  · rcases mem_setC r.wl.nd h with rfl | ⟨h1, _⟩
    · exact r.cl (a, d) hc
    · exact r.cl c h1
  · by_cases h : b = a
    · subst h
      exact ⟨o, upd_same⟩
    · rw [L2.upd_ne h]
      exact r.bd b hb
theorem sv_app {a : Addr} {ds : List D} (hc : (a, .lst ds) ∈ cs) (ho : Ev K ta ρ cs (.any (.ref a))) (h : Ev K te ρ cs d) (hz : ds.length < 100000) (k : P.nx ρ (setC a (.lst (ds ++ [d])) cs)) :
    Sv K W bs (tDrop (tBM K "list" rAppend ta (tCons te tNil))) ρ cs P := fun G0 H0 G H σ E r e o => ho G H σ r.wl e _ fun v G2 H2 n rv => by
  cases rv
  have r2 := r.step n
  obtain ⟨_, vs, hv, _⟩ := r2.wl.cell _ hc
  refine ⟨Or.inl ⟨rfl, vs, .inl (.inl hv)⟩, h G2 H2 σ r2.wl (e.mono n.g) _ fun y G3 H3 n3 ry => ?_⟩
  have r3 := r2.step n3
  obtain ⟨_, us, hu, ru⟩ := r3.wl.cell _ hc
  refine ⟨a, us, y, rfl, rfl, hu, by rw [ru.length]; exact Evl.sz_lt hz, ?_⟩
  exact o.nx G3 _ σ ρ _ (r3.write (d' := .lst (ds ++ [d])) hc ⟨us ++ [y], upd_same, ru.append (.one ry)⟩) ((e.mono n.g).mono n3.g) k
theorem sv_appN {a : Addr} {ds es : List D} (hc : (a, .lst ds) ∈ cs) (ho : Ev K ta ρ cs (.any (.ref a))) (h : EvN K te ρ cs es) (hz : ds.length < 100000) (k : P.nx ρ (setC a (.lst (ds ++ [.lst es])) cs)) :
    Sv K W bs (tDrop (tBM K "list" rAppend ta (tCons te tNil))) ρ cs P := sv_app hc ho h.ev hz k
theorem _root_.Lv.RepF.put {f : Str} {v : V} {d : D} (h : Rep K G v d) : ∀ {vs : List (Str × V)} {ds : List (Str × D)}, RepF K G vs ds → RepF K G (putF f v vs) (putD f d ds)
  | _, _, .nil => .cons h .nil
  | _, _, .cons (f := g) h1 h2 => by
    unfold putF putD
    by_cases hg : g = f
    · rw [if_pos hg, if_pos hg]
      exact .cons h h2
    · rw [if_neg hg, if_neg hg]
      exact .cons h1 (RepF.put h h2)
/-- o.f = e -/
theorem sv_fld {a C : Addr} {f : Str} {fs : List (Str × D)} (hc : (a, .obj C fs) ∈ cs) (h : Ev K te ρ cs d) (ho : Ev K ta ρ cs (.any (.ref a))) (c : Cls K C) (na : NoAttr K C f) (hl : fs.length < 1000) (k : P.nx ρ (setC a (.obj C (putD f d fs)) cs)) :
    Sv K W bs (sFld K ta te f) ρ cs P := fun G0 H0 G H σ E r e o => h G H σ r.wl e _ fun v G2 H2 n rv => ho G2 H2 σ (r.step n).wl (e.mono n.g) _ fun u G3 H3 n3 ru => by
  cases ru
  have r3 := (r.step n).step n3
  obtain ⟨_, dx, vs, hu, rf⟩ := r3.wl.cell _ hc
  refine ⟨a, C, dx, vs, rfl, hu, c, na, by rw [rf.length]; exact hl, ?_⟩
  refine o.nx G3 _ σ ρ _ (r3.write (d' := .obj C (putD f d fs)) hc ⟨dx, putF f v vs, upd_same, ?_⟩) ((e.mono n.g).mono n3.g) k
  exact rf.put (rv.mono n3.g)
/-! ### loops -/
/-- a higher floor for the pure part -/
theorem Rl.floor (r : Rl K G0 H0 bs G H cs) : Rl K G H0 bs G H cs := ⟨r.wl, Ex.refl _, r.h0, fun a o h z => absurd (h.symm.trans z) (by simp), r.cl, r.bd, r.b0⟩
theorem Rl.back (r1 : Rl K G0 H0 bs G1 H1 cs) {cs2 : Cs} (r : Rl K G1 H0 bs G H cs2) : Rl K G0 H0 bs G H cs2 := ⟨r.wl, r1.g0.trans r.g0, r.h0, fun a o h z => by
  cases h1 : G1 a with
  | none => exact r.nw a o h h1
  | some u => exact r1.nw a u h1 z, r.cl, r.bd, r.b0⟩
/-- by an invariant over the turn, the slots and the cells; the cell that is walked (if one is) stays -/
theorem sv_for {wi : TI} {g : TG} {src : Cs} {ds : List D} (hi : EvI K wi ρ cs src ds) (I : Nat → Ro → Cs → Prop) (h0 : I 0 ρ cs) (hk : ∀ i ρ' cs', I i ρ' cs' → ∀ c ∈ src, c ∈ cs')
    (hs : ∀ (i : Nat) d ρ' cs', ds[i]? = some d → I i ρ' cs' → ∃ ρ1 js, EvG K g d ρ' ρ1 js ∧ Sv K W bs t ρ1 cs' { P with nx := I (i + 1), ct := I (i + 1), bk := P.nx })
    (hd : ∀ ρ' cs', I ds.length ρ' cs' → P.nx ρ' cs') : Sv K W bs (tFor wi g t) ρ cs P := fun G0 H0 G H σ E r e o => by
  refine hi G H σ r.wl e _ fun J G1 H1 n1 hsrc its => ?_
  have r1 := r.step n1
  refine ⟨fun i m σ' H' => m = ds.length - i ∧ i ≤ ds.length ∧ ∃ G' ρ' cs', Rl K G1 H0 bs G' H' cs' ∧ Env K G' σ' ρ' ∧ I i ρ' cs', ⟨ds.length, rfl, Nat.zero_le _, G1, ρ, cs, r1.floor, e.mono n1.g, h0⟩, fun i m σ' H' hW => ?_⟩
  obtain ⟨rfl, hle, G', ρ', cs', r', e', inv⟩ := hW
  have hs' := hk i ρ' cs' inv
  by_cases hlt : i < ds.length
  · have hat : ds[i]? = some ds[i] := List.getElem?_eq_getElem hlt
    obtain ⟨go, yl⟩ := its.go i _ G' H' cs' hat r'.g0 r'.wl hs'
    refine .inr ⟨go, fun σ2 H2 => i + 1 ≤ ds.length ∧ ∃ G' ρ' cs', Rl K G1 H0 bs G' H2 cs' ∧ Env K G' σ2 ρ' ∧ I (i + 1) ρ' cs', fun σ2 H2 h => ⟨ds.length - (i + 1), by omega, rfl, h.1, h.2⟩, fun x H2 hy => ?_⟩
    obtain ⟨G4, n4, rx⟩ := yl x H2 hy
    obtain ⟨ρ1, js, hg, hb⟩ := hs i _ ρ' cs' hat inv
    refine hg G4 H2 σ' x n4.s (e'.mono n4.g) rx _ fun σ2 e2 _ => hb G1 H0 G4 H2 σ2 _ (r'.step n4) e2 ⟨fun G H σ ρ cs r e k => ?_, fun G H v d cs r rv k => ?_, fun G H σ ρ cs r e k => ?_, fun G H σ ρ cs r e k => ?_, fun G H σ ρ cs cls dd fs r e xr xn k => ?_⟩
    · exact ⟨by omega, G, ρ, cs, r, e, k⟩
    · exact o.rt G H v d cs (r1.back r) rv k
    · exact o.nx G H σ ρ cs (r1.back r) e k
    · exact ⟨by omega, G, ρ, cs, r, e, k⟩
    · exact o.ex G H σ ρ cs cls dd fs (r1.back r) e xr xn k
  · refine .inl ⟨its.stop i G' H' cs' (by omega) r'.g0 r'.wl hs', o.nx G' H' σ' ρ' cs' (r1.back r') e' (hd ρ' cs' ?_)⟩
    rw [show ds.length = i by omega]
    exact inv
theorem sv_while (I : Nat → Ro → Cs → Prop) (m0 : Nat) (h0 : I m0 ρ cs)
    (hs : ∀ m ρ' cs', I m ρ' cs' → ∃ b, EvT K tt ρ' cs' b ∧ (b = true → Sv K W bs t ρ' cs' { P with nx := fun ρ2 cs2 => ∃ m', m' < m ∧ I m' ρ2 cs2, ct := fun ρ2 cs2 => ∃ m', m' < m ∧ I m' ρ2 cs2, bk := P.nx }) ∧ (b = false → P.nx ρ' cs')) : Sv K W bs (tWhile tt t) ρ cs P := fun G0 H0 G H σ E r e o => by
  refine ⟨fun m σ' H' => ∃ G' ρ' cs', Rl K G0 H0 bs G' H' cs' ∧ Env K G' σ' ρ' ∧ I m ρ' cs', ⟨m0, G, ρ, cs, r, e, h0⟩, fun m σ' H' hW => ?_⟩
  obtain ⟨G', ρ', cs', r', e', inv⟩ := hW
  obtain ⟨b, ht, h1, h2⟩ := hs m ρ' cs' inv
  refine ht G' H' σ' r'.wl e' _ fun G2 H2 n => ?_
  cases b with
  | true =>
    refine ⟨fun σ2 H2 => ∃ m', m' < m ∧ ∃ G' ρ' cs', Rl K G0 H0 bs G' H2 cs' ∧ Env K G' σ2 ρ' ∧ I m' ρ' cs', fun σ2 H2 h => h, ?_⟩
    refine h1 rfl G0 H0 G2 H2 σ' _ (r'.step n) (e'.mono n.g) ⟨fun G H σ ρ cs r e k => ?_, o.rt, o.nx, fun G H σ ρ cs r e k => ?_, o.ex⟩
    · obtain ⟨m', hm, k⟩ := k
      exact ⟨m', hm, G, ρ, cs, r, e, k⟩
    · obtain ⟨m', hm, k⟩ := k
      exact ⟨m', hm, G, ρ, cs, r, e, k⟩
  | false => exact o.nx G2 H2 σ' ρ' cs' (r'.step n) (e'.mono n.g) (h2 rfl)
/-! ### a cell is frozen: from now on it is data -/
/-- ρ' is ρ, where some slots that hold the cell a hold the data d -/
def frz (a : Addr) (d : D) : Ro → Ro → Prop
  | [], [] => True
  | x :: r, y :: s => (x = y ∨ (x = some (.any (.ref a)) ∧ y = some d)) ∧ frz a d r s
  | _, _ => False
theorem frz.length {a : Addr} {d : D} : ∀ {r s : Ro}, frz a d r s → r.length = s.length
  | [], [], _ => rfl
  | _ :: r, _ :: s, h => by rw [List.length_cons, List.length_cons, frz.length (r := r) (s := s) h.2]
  | [], _ :: _, h => h.elim
  | _ :: _, [], h => h.elim
theorem frz.get {a : Addr} {d : D} : ∀ {r s : Ro} {i : Nat} {x : D}, frz a d r s → s[i]? = some (some x) → r[i]? = some (some x) ∨ (r[i]? = some (some (.any (.ref a))) ∧ x = d)
  | [], [], _, _, _, e => by simp at e
  | y :: r, z :: s, 0, x, h, e => by
    rw [List.getElem?_cons_zero] at e ⊢
    cases e
    rcases h.1 with q | ⟨q, h2⟩
    · rw [q]; exact .inl rfl
    · cases h2; rw [q]; exact .inr ⟨rfl, rfl⟩
  | y :: r, z :: s, i + 1, x, h, e => by
    rw [List.getElem?_cons_succ] at e ⊢
    exact frz.get (r := r) (s := s) h.2 e
  | [], _ :: _, _, _, h, _ => h.elim
  | _ :: _, [], _, _, h, _ => h.elim
def delC (a : Addr) (cs : Cs) : Cs := cs.filter fun c => decide (c.1 ≠ a)
def frzOk : D → Bool
  | .lst _ => true
  | .obj _ _ => true
  | .dik _ => true
  | .dit _ => true
  | .dix _ _ => true
  | _ => false
theorem Rl.freeze {a : Addr} {σ : L2.St} (r : Rl K G0 H0 bs G H cs) (e : Env K G σ ρ) (hc : (a, d) ∈ cs) (hb : a ∉ bs) (hf : frz a d ρ ρ1) (hok : frzOk d = true) : ∃ G', Rl K G0 H0 bs G' H (delC a cs) ∧ Env K G' σ ρ1 := by
  obtain ⟨ga, cl⟩ := r.wl.cell _ hc
  obtain ⟨o, ho⟩ := cl.some
  have h0 : H0 a = none := by
    rcases r.cl _ hc with h | h
    · exact absurd h hb
    · exact h
  have gx : Ex G (upd G a o) := Ex.new ga
  have rd : Rep K (upd G a o) (.ref a) d := by
    cases d with
    | lst ds =>
      obtain ⟨vs, h1, h2⟩ := cl
      cases ho.symm.trans h1
      exact .lst upd_same (h2.mono gx)
    | obj C fs =>
      obtain ⟨dx, vs, h1, h2⟩ := cl
      cases ho.symm.trans h1
      exact .obj upd_same (h2.mono gx)
    | dik ds =>
      obtain ⟨vs, h1, k, h2⟩ := cl
      cases ho.symm.trans h1
      exact .dik upd_same k (h2.mono gx)
    | dit ds =>
      obtain ⟨vs, h1, k, h2⟩ := cl
      cases ho.symm.trans h1
      exact .dit upd_same k (h2.mono gx)
    | dix w ds =>
      obtain ⟨xs, us, h1, k, h2, h3⟩ := cl
      cases ho.symm.trans h1
      exact .dix upd_same k (h2.mono gx) (h3.mono gx)
    | xdc fs => cases hok
    | sit w fs => cases hok
    | _ => exact cl.elim
  refine ⟨upd G a o, ⟨⟨fun b u h => ?_, fun c h => ?_, ?_⟩, r.g0.trans gx, r.h0, fun b u h z => ?_, fun c h => r.cl c (List.mem_filter.mp h).1, r.bd, r.b0⟩, ⟨e.len.trans hf.length, fun i x h => ?_⟩⟩
  · by_cases hb : b = a
    · subst hb; rw [upd_same] at h; rw [ho]; exact h
    · rw [L2.upd_ne hb] at h; exact r.wl.sub b u h
  · obtain ⟨h1, h2⟩ := List.mem_filter.mp h
    have hne : c.1 ≠ a := of_decide_eq_true h2
    obtain ⟨g1, c1⟩ := r.wl.cell c h1
    exact ⟨by rw [L2.upd_ne hne]; exact g1, c1.mono gx (Ex.refl _)⟩
  · exact (List.Sublist.map (fun c : Addr × D => c.1) (List.filter_sublist (p := fun c : Addr × D => decide (c.1 ≠ a)) (l := cs))).nodup r.wl.nd
  · by_cases hb : b = a
    · subst hb; exact h0
    · rw [L2.upd_ne hb] at h; exact r.nw b u h z
  · rcases hf.get h with h | ⟨h, hx⟩
    · obtain ⟨v, h1, h2⟩ := e.at_ i x h
      exact ⟨v, h1, h2.mono gx⟩
    · obtain ⟨v, h1, h2⟩ := e.at_ i _ h
      cases h2
      subst hx
      exact ⟨_, h1, rd⟩
theorem sv_freeze {a : Addr} (ρ1 : Ro) (hc : (a, d) ∈ cs) (hb : a ∉ bs) (hf : frz a d ρ ρ1) (hok : frzOk d = true) (k : Sv K W bs t ρ1 (delC a cs) P) : Sv K W bs t ρ cs P := fun G0 H0 G H σ E r e o => by
  obtain ⟨G', r', e'⟩ := r.freeze e hc hb hf hok
  exact k G0 H0 G' H σ E r' e' o
/-- a cell is forgotten -/
theorem sv_forget {cs2 : Cs} (k : Sv K W bs t ρ cs2 P) (h : ∀ c ∈ cs2, c ∈ cs) (nd : (cs2.map (·.1)).Nodup) : Sv K W bs t ρ cs P := fun G0 H0 G H σ E r e o =>
  k G0 H0 G H σ E ⟨⟨r.wl.sub, fun c hc => r.wl.cell c (h c hc), nd⟩, r.g0, r.h0, r.nw, fun c hc => r.cl c (h c hc), r.bd, r.b0⟩ e o
end
end Lv

namespace Lv
open PySem L2
open Evl (Ex)
/-! ### what a def gives -/
inductive Out where
  | ret (d : D)
  | new (ds : List D)
  | exc (cls : Value) (fs : Option (List (Str × D)))
def Gets (K : PySem.W.Frag) (G H : Hp) (Q : VK) (E : XK) : Out → Prop
  | .ret d => ∀ v G2 H2, Nx G H G2 H2 → Rep K G2 v d → Q v H2
  | .new ds => ∀ p us G2 H2, Nx G H G2 H2 → H p = none → G2 p = none → H2 p = some (.lst us) → RepL K G2 us ds → Q (.ref p) H2
  | .exc cls fs => ∀ dd G2 H2, Nx G H G2 H2 → Xr K G2 H2 dd fs → Xn H G2 [] dd → E cls dd H2
/-- the def gives o of the data ds where A ds o -/
def spO (K : PySem.W.Frag) (n : Nat) (A : List D → Out → Prop) : Sp := fun vs H Q E => ∃ G ds o, Ex G H ∧ RepL K G vs ds ∧ ds.length = n ∧ A ds o ∧ Gets K G H Q E o
def poOf (o : Out) : Po where
  nx := fun _ _ => o = .ret .non
  rt := fun d cs => match o with
    | .ret d' => d = d'
    | .new ds => ∃ a, d = .any (.ref a) ∧ (a, .lst ds) ∈ cs
    | .exc _ _ => False
  ex := fun _ _ cls fs => o = .exc cls fs
def startD (N : List Str) (ds : List D) : Ro := ds.map some ++ List.replicate (N.length - ds.length) none
abbrev Wd (E : XK) : WX := fun cls d _ H => E cls d H
section
variable {K : PySem.W.Frag} {G G0 G1 G2 H H0 H1 H2 H3 G3 : Hp} {ρ ρ1 : Ro} {cs : Cs} {ta tb te tx : TE} {tt : TT} {d d' e x y z : D} {W : WX} {bs : List Addr} {P : Po} {t u : TS}
theorem spO_ret {n : Nat} {A : List D → Out → Prop} {ds : List D} (h : A ds (.ret z)) (hn : ds.length = n) : SpD K (spO K n A) ds z := fun G H vs s r Q E q => ⟨G, ds, .ret z, s, r, hn, h, q⟩
theorem spO_new {n : Nat} {A : List D → Out → Prop} {ds zs : List D} (h : A ds (.new zs)) (hn : ds.length = n) : SpN K (spO K n A) ds zs := fun G H vs s r Q E q => ⟨G, ds, .new zs, s, r, hn, h, q⟩
theorem start_env {N : List Str} {vs : List V} {ds : List D} (r : RepL K G vs ds) : Env K G (start N vs) (startD N ds) := by
  unfold L2.start startD
  rw [r.length]
  refine ⟨by simp [r.length], fun i d h => ?_⟩
  by_cases hi : i < ds.length
  · rw [List.getElem?_append_left (by simpa using hi), List.getElem?_map] at h
    rw [List.getElem?_append_left (by rw [List.length_map, r.length]; exact hi), List.getElem?_map]
    cases hd : ds[i]? with
    | none => rw [hd] at h; cases h
    | some x =>
      rw [hd] at h
      cases h
      obtain ⟨v, h1, h2⟩ := r.get hd
      exact ⟨v, by rw [h1]; rfl, h2⟩
  · rw [List.getElem?_append_right (by simpa using hi), List.getElem?_replicate] at h
    split at h <;> cases h
theorem rl_start (s : Ex G H) : Rl K G H [] G H [] := ⟨⟨s, fun c h => by simp at h, by simp⟩, Ex.refl _, fun a o h _ => h, fun a o h z => absurd (h.symm.trans z) (by simp), fun c h => by simp at h, fun b h => by simp at h, fun b h => by simp at h⟩
theorem Rl.nx (r : Rl K G0 H0 [] G H cs) : Nx G0 H0 G H := ⟨r.g0, fun a o h => r.h0 a o h (by simp), r.wl.sub, r.nw⟩
theorem run_of {N : List Str} {vs : List V} {ds : List D} {o : Out} {Q : VK} {E : XK} (s : Ex G H) (r : RepL K G vs ds) (h : Sv K (Wd E) [] t (startD N ds) [] (poOf o)) (q : Gets K G H Q E o) : t { nx := fun _ H' => Q .non H', rt := Q } (start N vs) H := by
  refine h G H G H (start N vs) _ (rl_start s) (start_env r) ⟨fun G2 H2 σ ρ cs rl e k => ?_, fun G2 H2 v d cs rl rv k => ?_, fun _ _ _ _ _ _ _ k => k.elim, fun _ _ _ _ _ _ _ k => k.elim, fun G2 H2 σ ρ cs cls dd fs rl e xr xn k => ?_⟩
  · have k' : o = .ret .non := k
    subst k'
    exact q _ G2 H2 rl.nx .non
  · cases o with
    | ret d' =>
      have k' : d = d' := k
      subst k'
      exact q v G2 H2 rl.nx rv
    | new ds =>
      obtain ⟨a, rfl, hc⟩ := (show ∃ a, d = .any (.ref a) ∧ (a, .lst ds) ∈ cs from k)
      cases rv
      obtain ⟨ga, vs, hv, rr⟩ := rl.wl.cell _ hc
      have h0 : H a = none := by
        rcases rl.cl _ hc with z | z
        · simp at z
        · exact z
      exact q a vs G2 H2 rl.nx h0 ga hv rr
    | exc c f => exact (show False from k).elim
  · have k' : o = .exc cls fs := k
    subst k'
    exact q dd G2 H2 rl.nx xr (fun p hp => ⟨(xn p hp).1, (xn p hp).2.1, fun c hc => by simp at hc⟩)
end
/-- a def of the text at f, with whatever defaults -/
structure FunU (K : PySem.W.Frag) (x qual : Str) (st : Stmt) (f : Addr) (fd : FuncData) : Prop where
  ex : ∃ (oc : Value) (od : Option Addr) (dV kV doc pm : Value) (an : Option Addr) (cdv ct : Value) (osl : Array (Option Value)),
    fd = PySem.W.fnOf x qual (defArgs st) (defBody st) (defScope st) dV kV doc pm an cdv ct ∧ K.lookup f = some ⟨oc, od, .func fd, osl⟩ ∧ PySem.W.codeIn K cdv qual = true
  kp : PySem.W.keepIn K (.ref f) = true
/-! ### a def by its name -/
theorem passN {X : Cx} : Passes (L2N.CX X.prog X.w) X E0 := fun _ _ _ _ _ _ _ h => by
  obtain ⟨_, _, _, _, _, _, _, _, _, _, _, _, z⟩ := h
  exact z.elim
theorem takesN0 {X : Cx} : L2N.Takes X (fun _ _ _ _ => False) := fun _ _ x => by
  obtain ⟨_, _, _, _, _, _, _, _, _, _, _, _, _, _, _, _, z⟩ := x
  exact z.elim
structure Fx (P : Program) (w : World) (K : PySem.W.Frag) (mg : Str → Option Value) (base : Heap) (k : Nat) (x : Str) (ps : List Str) (sp : Sp) : Prop where
  ex : ∃ f fd, FnOk P w K mg base (L2N.CX P w) k f fd ps sp ∧ mg x = some (.ref f) ∧ PySem.W.keepIn K (.ref f) = true ∧ Binds K fd ps []
section
variable {P : Program} {w : World} {K : PySem.W.Frag} {mg : Str → Option Value} {base : Heap}
abbrev cxN (P : Program) (w : World) (K : PySem.W.Frag) (mg : Str → Option Value) (base : Heap) (N : List Str) (qual : Str) (st : Stmt) (f : Addr) (cdv : Value) (A' : Around) (outer : List PySem.Env) (s : Shared) (H : Hp) (E : XK) : Cx := cxOf (L2N.CX P w) P w K mg base N qual (defScope st) f cdv A' outer s H E
theorem fn_okD {x qual : Str} {st : Stmt} {f : Addr} {fd : FuncData} {N ps : List Str} {k n : Nat} {A : List D → Out → Prop} (F : FunU K x qual st f fd) (S : FnScope N ps (defScope st)) (hn : ps.length = n)
    (hbody : ∀ (cdv : Value) (A' : Around) (outer : List PySem.Env) (s : Shared) (H : Hp) (E : XK), Room k (cxN P w K mg base N qual st f cdv A' outer s H E).A → L2N.Takes (cxN P w K mg base N qual st f cdv A' outer s H E) (Wd E) →
      PassesOwn (model P w) (cxN P w K mg base N qual st f cdv A' outer s H E).A (cxN P w K mg base N qual st f cdv A' outer s H E).env (cxN P w K mg base N qual st f cdv A' outer s H E).xe →
      ∃ t, PSs (cxN P w K mg base N qual st f cdv A' outer s H E) (defBody st) t ∧ ∀ ds o, ds.length = n → A ds o → Sv K (Wd E) [] t (startD N ds) [] (poOf o)) :
    FnOk P w K mg base (L2N.CX P w) (k + 1) f fd ps (spO K n A) := by
  obtain ⟨oc, od, dV, kV, doc, pm, an, cdv, ct, osl, rfl, lk, hcd⟩ := F.ex
  refine fn_of lk hcd S (fun vs H Q E h => ?_) (fun A' outer s H vs Q E hr h => ?_)
  · obtain ⟨G, ds, o, _, r, h1, _⟩ := h
    rw [r.length, h1, hn]
  · obtain ⟨G, ds, o, hs, r, h1, h2, q⟩ := h
    obtain ⟨t, ht, hv⟩ := hbody cdv A' outer s H E hr (L2N.takes_of rfl rfl rfl rfl) (passes_of rfl)
    exact ⟨t, ht, run_of hs r (hv ds o h1 h2) q⟩
end
section
variable {X : Cx} {k j : Nat} {x : Str} {ps : List Str} {sp : Sp} {e : Expr} {es : List Expr} {t : TA} {p pos : Pos}
theorem pe_callF (F : Fx X.prog X.w X.K X.mg X.base j x ps sp) (hr : Room k X.A) (ha : PA X (e :: es) t) (hj : j ≤ k := by decide) (hg : Gl X x := by rfl) (hdb : (x == ("__debug__" : Str)) = false := by decide)
    (he : starEach (e :: es) X.env = (false, eval e X.env) :: starEach es X.env := by rfl) (hpl : (backTo pos (starEach es X.env)).any (·.1) = false := by rfl) : PE X (.Call (.Name x p) (e :: es) [] pos) (tCall sp [] E0 t) := by
  obtain ⟨f, fd, G, m, kp, b⟩ := F.ex
  exact pe_call G (hr.mono hj) hg m kp b .nil passN ha hdb he hpl
theorem pe_callFS {W : WX} (tk : L2N.Takes X W) (F : Fx X.prog X.w X.K X.mg X.base j x ps sp) (hr : Room k X.A) (ha : PA X (e :: es) t) (hj : j ≤ k := by decide) (hg : Gl X x := by rfl) (hdb : (x == ("__debug__" : Str)) = false := by decide)
    (he : starEach (e :: es) X.env = (false, eval e X.env) :: starEach es X.env := by rfl) (hpl : (backTo pos (starEach es X.env)).any (·.1) = false := by rfl) : PE X (.Call (.Name x p) (e :: es) [] pos) (tCallS sp (WE W) t) := by
  obtain ⟨f, fd, G, m, kp, b⟩ := F.ex
  exact pe_callS G (hr.mono hj) hg m kp b (fun σ => L2N.passAt tk σ) ha hdb he hpl
def uTru (K : PySem.W.Frag) (te : TE) : TT := fun σ H Q => te σ H fun x H' => ∃ k, TruV K x H' k ∧ Q k H'
theorem pt_tru {a : Expr} {ta : TE} (ha : PE X a ta) (he : ∀ whole, isTrue a X.env whole = (do let v ← whole; standAt a.pos; holding [v] (truthy v)) := by intro _; rfl) : PT X a (uTru X.K ta) := pt_truth ha he
end
theorem et_truB {K : PySem.W.Frag} {te : TE} {ρ : Ro} {cs : Cs} {b : Bool} (h : Ev K te ρ cs (.bl b)) : EvT K (uTru K te) ρ cs b := fun G H σ w e Q q => h G H σ w e _ fun v G2 H2 n r => by
  cases r
  exact ⟨b, rfl, q G2 H2 n⟩
theorem et_truL {K : PySem.W.Frag} {te : TE} {ρ : Ro} {cs : Cs} {ds : List D} (h : EvR K te ρ cs (.lst ds)) : EvT K (uTru K te) ρ cs (!ds.isEmpty) := fun G H σ w e Q q => h G H σ w e _ fun v G2 H2 n r => by
  obtain ⟨a, vs, rfl, ha, ra⟩ := r.seqL (w.step n)
  refine ⟨!ds.isEmpty, .inl ⟨vs, .inl (.inl ha), ?_⟩, q G2 H2 n⟩
  have := ra.length
  cases ds <;> cases vs <;> simp_all
end Lv

namespace Lv
open PySem L2
open Evl (Ex)
theorem u65 {A : Around} {k : Nat} (hr : Room k A) : A.units + 65 < cLine := by have := hr.un; omega
/-! ### == with scalars -/
def uEq (K : PySem.W.Frag) : R2 := fun x y H Q => rEq x y H Q ∨ rEqD K x y H Q
def uNe (K : PySem.W.Frag) : R2 := fun x y H Q => rNe x y H Q ∨ rNeD K x y H Q
theorem op_uEq {X : Cx} (hu : X.A.units + 64 < cLine) : OpR X (compareOp .Eq) (uEq X.K) := op_eq.or (op_eqD hu)
theorem op_uNe {X : Cx} (hu : X.A.units + 64 < cLine) : OpR X (compareOp .NotEq) (uNe X.K) := op_ne.or (op_neD hu)
section
variable {K : PySem.W.Frag} {G G0 G1 G2 H H0 H1 H2 H3 G3 : Hp} {ρ ρ1 : Ro} {cs : Cs} {ta tb te tx : TE} {tt : TT} {d d' e x y z : D} {W : WX} {bs : List Addr} {P : Po} {t u v : TS}
theorem opd_eqI {i j : Int} : OpD K (uEq K) cs (.int i) (.int j) (.bl (decide (i = j))) := fun G H vx vy w rx ry Q q => .inl (by
  cases rx.int w
  cases ry.int w
  refine ⟨rfl, ?_⟩
  rw [show decide (V.int i = V.int j) = decide (i = j) from decide_eq_decide.mpr ⟨fun h => V.int.inj h, fun h => by rw [h]⟩]
  exact q _ G H (Nx.refl w.sub) (.bl _))
theorem opd_neI {i j : Int} : OpD K (uNe K) cs (.int i) (.int j) (.bl (!decide (i = j))) := fun G H vx vy w rx ry Q q => .inl (by
  cases rx.int w
  cases ry.int w
  refine ⟨rfl, ?_⟩
  rw [show decide (V.int i = V.int j) = decide (i = j) from decide_eq_decide.mpr ⟨fun h => V.int.inj h, fun h => by rw [h]⟩]
  exact q _ G H (Nx.refl w.sub) (.bl _))
theorem opd_eqS {i j : Str} : OpD K (uEq K) cs (.str i) (.str j) (.bl (decide (i = j))) := fun G H vx vy w rx ry Q q => .inl (by
  cases rx.str w
  cases ry.str w
  refine ⟨rfl, ?_⟩
  rw [show decide (V.str i = V.str j) = decide (i = j) from decide_eq_decide.mpr ⟨fun h => V.str.inj h, fun h => by rw [h]⟩]
  exact q _ G H (Nx.refl w.sub) (.bl _))
theorem opd_neS {i j : Str} : OpD K (uNe K) cs (.str i) (.str j) (.bl (!decide (i = j))) := fun G H vx vy w rx ry Q q => .inl (by
  cases rx.str w
  cases ry.str w
  refine ⟨rfl, ?_⟩
  rw [show decide (V.str i = V.str j) = decide (i = j) from decide_eq_decide.mpr ⟨fun h => V.str.inj h, fun h => by rw [h]⟩]
  exact q _ G H (Nx.refl w.sub) (.bl _))
theorem opd_eqB {i j : Bool} : OpD K (uEq K) cs (.bl i) (.bl j) (.bl (decide (i = j))) := fun G H vx vy w rx ry Q q => .inl (by
  cases rx.bl w
  cases ry.bl w
  refine ⟨rfl, ?_⟩
  rw [show decide (V.bl i = V.bl j) = decide (i = j) from decide_eq_decide.mpr ⟨fun h => V.bl.inj h, fun h => by rw [h]⟩]
  exact q _ G H (Nx.refl w.sub) (.bl _))
theorem opd_neB {i j : Bool} : OpD K (uNe K) cs (.bl i) (.bl j) (.bl (!decide (i = j))) := fun G H vx vy w rx ry Q q => .inl (by
  cases rx.bl w
  cases ry.bl w
  refine ⟨rfl, ?_⟩
  rw [show decide (V.bl i = V.bl j) = decide (i = j) from decide_eq_decide.mpr ⟨fun h => V.bl.inj h, fun h => by rw [h]⟩]
  exact q _ G H (Nx.refl w.sub) (.bl _))
theorem opd_eqU {n : Nat} (hn : n ≤ 64) (hx : ok n x = true) (hy : ok n y = true) : OpD K (uEq K) cs x y (.bl (eqD x y)) := fun G H vx vy w rx ry Q q => .inr (opd_eq hn hx hy G H vx vy w rx ry Q q)
theorem opd_neU {n : Nat} (hn : n ≤ 64) (hx : ok n x = true) (hy : ok n y = true) : OpD K (uNe K) cs x y (.bl (!eqD x y)) := fun G H vx vy w rx ry Q q => .inr (opd_ne hn hx hy G H vx vy w rx ry Q q)
/-! ### a statement and what follows -/
theorem q_set {i : Nat} (h : Ev K te ρ cs d) (k : Sv K W bs u (ρ.set i (some d)) cs P) : Sv K W bs (tSeq (tAsg te (gName i)) u) ρ cs P := sv_seq (sv_set h k)
theorem q_setN {i : Nat} {ds : List D} (h : EvN K te ρ cs ds) (k : ∀ a, a ∉ bs → (∀ c ∈ cs, c.1 ≠ a) → Sv K W bs u (ρ.set i (some (.any (.ref a)))) ((a, .lst ds) :: cs) P) : Sv K W bs (tSeq (tAsg te (gName i)) u) ρ cs P := sv_seq (sv_setN h k)
theorem q_asg {g : TG} {js : List Nat} (h : Ev K te ρ cs d) (hg : EvG K g d ρ ρ1 js) (k : Sv K W bs u ρ1 cs P) : Sv K W bs (tSeq (tAsg te g) u) ρ cs P := sv_seq (sv_asg h hg k)
theorem q_drop (h : Ev K te ρ cs d) (k : Sv K W bs u ρ cs P) : Sv K W bs (tSeq (tDrop te) u) ρ cs P := sv_seq (sv_drop h k)
/-- if c: return .. (no else, the body does not fall through) -/
theorem q_if {b : Bool} (h : EvT K tt ρ cs b) (h1 : b = true → Sv K W bs t ρ cs { P with nx := fun ρ' cs' => Sv K W bs u ρ' cs' P }) (h2 : b = false → Sv K W bs v ρ cs { P with nx := fun ρ' cs' => Sv K W bs u ρ' cs' P }) : Sv K W bs (tSeq (tIfS tt t v) u) ρ cs P := sv_seq (sv_if h h1 h2)
theorem q_when {b : Bool} (h : EvT K tt ρ cs b) (h1 : b = true → Sv K W bs t ρ cs { P with nx := fun ρ' cs' => Sv K W bs u ρ' cs' P }) (h2 : b = false → Sv K W bs u ρ cs P) : Sv K W bs (tSeq (tIfS tt t tNext) u) ρ cs P := sv_seq (sv_if h h1 fun hb => sv_next (h2 hb))
theorem sv_when {b : Bool} (h : EvT K tt ρ cs b) (h1 : b = true → Sv K W bs t ρ cs P) (h2 : b = false → P.nx ρ cs) : Sv K W bs (tIfS tt t tNext) ρ cs P := sv_if h h1 fun hb => sv_next (h2 hb)
theorem q_app {a : Addr} {ds : List D} {cs2 : Cs} (hc : (a, .lst ds) ∈ cs) (ho : Ev K ta ρ cs (.any (.ref a))) (h : Ev K te ρ cs d) (hz : ds.length < 100000) (hs : setC a (.lst (ds ++ [d])) cs = cs2) (k : Sv K W bs u ρ cs2 P) :
    Sv K W bs (tSeq (tDrop (tBM K "list" rAppend ta (tCons te tNil))) u) ρ cs P := sv_seq (sv_app hc ho h hz (by rw [hs]; exact k))
theorem setC_0 {a : Addr} {d d' : D} {cs : Cs} : setC a d' ((a, d) :: cs) = (a, d') :: cs := by rw [setC, if_pos rfl]
theorem setC_1 {a b : Addr} {d d' e : D} {cs : Cs} (h : b ≠ a) : setC a d' ((b, e) :: (a, d) :: cs) = (b, e) :: (a, d') :: cs := by rw [setC, if_neg h, setC, if_pos rfl]
theorem setC_2 {a b c : Addr} {d d' e f : D} {cs : Cs} (h : b ≠ a) (h2 : c ≠ a) : setC a d' ((b, e) :: (c, f) :: (a, d) :: cs) = (b, e) :: (c, f) :: (a, d') :: cs := by rw [setC, if_neg h, setC, if_neg h2, setC, if_pos rfl]
theorem delC_0 {a : Addr} {d : D} {cs : Cs} (h : ∀ c ∈ cs, c.1 ≠ a) : delC a ((a, d) :: cs) = cs := by
  unfold delC
  rw [List.filter_cons_of_neg (by simp), List.filter_eq_self]
  exact fun c hc => decide_eq_true (h c hc)
/-- over a list of n turns, the state behind i turns as functions of i -/
theorem q_forF {wi : TI} {g : TG} {src : Cs} {ds : List D} (hi : EvI K wi ρ cs src ds) (R : Nat → Ro) (C : Nat → Cs) (h0 : le (R 0) ρ) (hc0 : cs = C 0) (hk : ∀ i, ∀ c ∈ src, c ∈ C i)
    (hs : ∀ (i : Nat) d, ds[i]? = some d → ∃ ρ1 js, EvG K g d (R i) ρ1 js ∧ Sv K W bs t ρ1 (C i) { P with nx := fun ρ' cs' => le (R (i + 1)) ρ' ∧ cs' = C (i + 1), ct := fun ρ' cs' => le (R (i + 1)) ρ' ∧ cs' = C (i + 1), bk := fun ρ' cs' => Sv K W bs u ρ' cs' P })
    (hd : Sv K W bs u (R ds.length) (C ds.length) P) : Sv K W bs (tSeq (tFor wi g t) u) ρ cs P := by
  refine sv_seq (sv_for hi (fun i ρ' cs' => le (R i) ρ' ∧ cs' = C i) ⟨h0, hc0⟩ (fun i ρ' cs' h => by rw [h.2]; exact hk i) (fun i d ρ' cs' hd h => ?_) (fun ρ' cs' h => ?_))
  · obtain ⟨ρ1, js, hg, hb⟩ := hs i d hd
    refine ⟨ρ1, js, fun G H σ v s e r Q q => hg G H σ v s (e.le h.1) r Q q, ?_⟩
    rw [h.2]
    exact hb
  · rw [h.2]
    exact hd.le h.1
theorem le_set : ∀ {ρ : Ro} {i : Nat} {d : D}, ρ[i]? = some (some d) → le (ρ.set i (some d)) ρ
  | [], _, _, h => by simp at h
  | x :: r, 0, d, h => by
    rw [List.getElem?_cons_zero] at h
    cases h
    exact le.refl _
  | none :: r, i + 1, d, h => le_set (ρ := r) (i := i) (by simpa using h)
  | some x :: r, i + 1, d, h => ⟨rfl, le_set (ρ := r) (i := i) (by simpa using h)⟩
/-- if c: x = e, told by the value x has behind it -/
theorem q_ifset {i : Nat} {b : Bool} (h : EvT K tt ρ cs b) (h1 : b = true → Ev K te ρ cs d) (h2 : b = false → ρ[i]? = some (some d)) (k : Sv K W bs u (ρ.set i (some d)) cs P) : Sv K W bs (tSeq (tIfS tt (tAsg te (gName i)) tNext) u) ρ cs P :=
  q_when h (fun hb => sv_set (h1 hb) k) (fun hb => k.le (le_set (h2 hb)))
/-- for x in range(n) -/
theorem q_forR {ta : TA} {j n : Nat} (hi : EvA K ta ρ cs [.int (n : Int)]) (hn : n ≤ 100000) (R : Nat → Ro) (C : Nat → Cs) (h0 : le (R 0) ρ) (hc0 : cs = C 0)
    (hs : ∀ i, i < n → Sv K W bs t ((R i).set j (some (.int (i : Int)))) (C i) { P with nx := fun ρ' cs' => le (R (i + 1)) ρ' ∧ cs' = C (i + 1), ct := fun ρ' cs' => le (R (i + 1)) ρ' ∧ cs' = C (i + 1), bk := fun ρ' cs' => Sv K W bs u ρ' cs' P })
    (hd : Sv K W bs u (R n) (C n) P) : Sv K W bs (tSeq (tFor (iRng1 ta) (gName j) t) u) ρ cs P := by
  refine q_forF (ei_rng1 hi hn) R C h0 hc0 (fun i c h => by simp at h) (fun i d h => ?_) ?_
  · rw [List.getElem?_map] at h
    cases hr : (List.range n)[i]? with
    | none => rw [hr] at h; cases h
    | some m =>
      have hi : i < n := by
        have := (List.getElem?_eq_some_iff.mp hr).1
        simpa using this
      rw [List.getElem?_range hi] at h
      cases h
      exact ⟨_, _, eg_name, hs i hi⟩
  · rw [List.length_map, List.length_range]
    exact hd
/-- for x in a list or tuple of data -/
theorem q_forL {α : Type} {xs : List α} {enc : α → D} {wi : TI} {j : Nat} {src : Cs} (hi : EvI K wi ρ cs src (xs.map enc)) (R : Nat → Ro) (C : Nat → Cs) (h0 : le (R 0) ρ) (hc0 : cs = C 0) (hk : ∀ i, ∀ c ∈ src, c ∈ C i)
    (hs : ∀ (i : Nat) a, xs[i]? = some a → Sv K W bs t ((R i).set j (some (enc a))) (C i) { P with nx := fun ρ' cs' => le (R (i + 1)) ρ' ∧ cs' = C (i + 1), ct := fun ρ' cs' => le (R (i + 1)) ρ' ∧ cs' = C (i + 1), bk := fun ρ' cs' => Sv K W bs u ρ' cs' P })
    (hd : Sv K W bs u (R xs.length) (C xs.length) P) : Sv K W bs (tSeq (tFor wi (gName j) t) u) ρ cs P := by
  refine q_forF hi R C h0 hc0 hk (fun i d h => ?_) ?_
  · rw [List.getElem?_map] at h
    cases hr : xs[i]? with
    | none => rw [hr] at h; cases h
    | some m =>
      rw [hr] at h
      cases h
      exact ⟨_, _, eg_name, hs i m hr⟩
  · rw [List.length_map]
    exact hd
theorem sv_retc {i : Nat} {a : Addr} {ds : List D} (h : ρ[i]? = some (some (.any (.ref a)))) (hc : (a, .lst ds) ∈ cs) : Sv K W bs (tRet (tVar i)) ρ cs (poOf (.new ds)) := sv_ret (ev_var h) ⟨a, rfl, hc⟩
end
end Lv

namespace Lv
open PySem L2
open Evl (Ex)
section
variable {X : Cx} {e : Expr} {es : List Expr} {ta : TA} {p pos : Pos}
/-- X(e, ..), X's own __init__ keeping sp; the exception's context is None -/
theorem pmk_oexN {CX : CXT} {x : Str} {C fI : Addr} {k : Nat} {fd : FuncData} {ps : List Str} {sp : Sp} (T : OexC X.K C) (iC : PySem.W.findIn X.K (.ref C) "__init__" = some (some (.ref fI))) (tI : PySem.W.typeIn X.K (.ref fI) = some (.type "function"))
    (F1 : FnOk X.prog X.w X.K X.mg X.base CX k fI fd ps sp) (hr : Room (k + 1) X.A) (hb : Binds X.K fd ps []) (hx : Passes CX X E0) (hg : Gl X x) (hm : X.mg x = some (.ref C)) (ha : PA X (e :: es) ta)
    (hdb : (x == ("__debug__" : Str)) = false := by decide) (he : starEach (e :: es) X.env = (false, eval e X.env) :: starEach es X.env := by rfl) (hpl : (backTo pos (starEach es X.env)).any (·.1) = false := by rfl) :
    L2N.PMk X (.Call (.Name x p) (e :: es) [] pos) (tMkO C sp [] ta) := by
  intro pins s σ H Q I h
  have T' := T
  obtain ⟨nm, q, N, bs, bm, sn, sub, ab, col, dd, k0, k1, k2, k3, k5, hC, hbm⟩ := T'.cls
  refine wpAny_Call_Name_kw (ld_glob I hg hm ?_ hdb)
  have hargs := ha.run pos pins s σ H _ I h
  refine PySem.W.callWith_K (h₀ := X.base) I.ok.mod.kin T.kC (thn hargs fun us s1 hu => ?_) he hpl
  obtain ⟨vs, H1, I1, r1, hz, q1⟩ := hu
  refine ⟨I1.kIn, ?_⟩
  show wpAny _ _ (call (.ref C) us) _ _ _
  obtain ⟨hp, g, dr, tk, os⟩ := s1
  let a := hp.objs.size + 1
  have ha1 : hp.objs.size ≤ a := Nat.le_succ _
  have hn : H1 a = none := I1.hok.fresh ha1
  have hq := q1 a hn
  let hp2 := (hp.push (PySem.W.kdv_tup us)).push (PySem.HandSPX.excO C hp.objs.size)
  have kk : ∀ b o, hp.get? b = some o → hp2.get? b = some o := fun b o z => Heap.get?_push_of_some _ (Heap.get?_push_of_some _ z)
  have hget : hp2.get? a = some (PySem.HandSPX.excO C hp.objs.size) := by
    show ((hp.push (PySem.W.kdv_tup us)).push (PySem.HandSPX.excO C hp.objs.size)).get? (hp.objs.size + 1) = _
    heap_get
  have I2 : Inv X pins σ (upd H1 a (exo a C none)) ⟨hp2, g, dr, tk, os⟩ := I1.laid (t' := tk) (a := a) (o := exo a C none) (h' := hp2) kk ha1 (exo_ok hget)
  have r2 : Vals (V.ref a :: (vs ++ [])) (Value.ref a :: us) := by
    rw [List.append_nil]
    exact .cons rfl r1
  have hl : (Value.ref a :: us ++ ([] : List Value)).length = ps.length := by
    have z := r2.length
    rw [F1.len _ _ _ _ hq] at z
    rw [List.append_nil]
    exact z.symm
  have hus : us.length ≤ sizeLine := by
    rw [← Paired.length r1, sizeLine_eq]
    omega
  have bnd := hb _ (Value.ref a :: us) I2.kIn hl
  rw [List.append_nil] at bnd
  refine wpAny_call (PySem.HandSPX.call_own F.excBase_ValueError (fun Y => PySem.HandSPX.refsVE_contains Y bm hbm) (I1.kIn _ _ hC) (PySem.W.looks_findIn I1.kIn iC) (fun self => PySem.W.bind_fn I1.kIn self tI) hus
    (codeAny_mono (F1.run _ X.stack _ _ ⟨Value.ref a :: us, []⟩ (Value.ref a :: us) _ _ E0 (hr.make C us []) (I2.env0.make C us []) bnd r2 hq) fun r s' hq' => ?_))
  cases r with
  | error er => exact hx pins σ _ _ er s' I2 hq'
  | ok fl =>
    cases fl with
    | ret u =>
      obtain ⟨v, H2, os2, bare2, un2, hok2, rv, ev, d, fs, ea, ed, hd1, q2⟩ := hq'
      subst ev
      obtain ⟨h2, g2, d2, t2, os'⟩ := s'
      obtain ⟨t0, Gh, J, kG, ge, hoe, na⟩ := mk_end0 (d2 := d2) (t2 := t2) I1 ha1 kk un2 hok2 os2 bare2 ea ed hd1
      exact ⟨rv, a, _, _, ⟨Gh, g2, d2, t2, os'⟩, _, .ref C, some d, rfl, J, kG, ge, hoe, ⟨rfl, rfl, fun vs e => by cases e; rfl⟩, rfl, rfl, na, rfl, bare2, raises_own T.exC T.tyC, q2⟩
    | next => exact False.elim hq'
    | brk => exact False.elim hq'
    | cont => exact False.elim hq'
end
/-- what an exception's __init__(self, f): self.f = f keeps -/
def spXI (K : PySem.W.Frag) (f : Str) : Sp := fun vs H Q _ => ∃ (a C : Addr) (v : V), vs = [.ref a, v] ∧ OexC K C ∧ PySem.W.findIn K (.ref C) f = some none ∧ H a = some (exo a C none) ∧ ∀ dx, H dx = none → dx ≠ a → Q .non (upd (upd H dx (exd dx [(f, v)])) a (exo a C (some dx)))
/-- an exception class of the program with one field -/
structure Xc (P : Program) (w : World) (K : PySem.W.Frag) (mg : Str → Option Value) (base : Heap) (x f : Str) (C : Addr) : Prop where
  oex : OexC K C
  gx : mg x = some (.ref C)
  nf : PySem.W.findIn K (.ref C) f = some none
  ini : ∃ fI fd, PySem.W.findIn K (.ref C) "__init__" = some (some (.ref fI)) ∧ PySem.W.typeIn K (.ref fI) = some (.type "function") ∧ FnOk P w K mg base (L2N.CX P w) 1 fI fd ["self", f] (spXI K f) ∧ Binds K fd ["self", f] []
theorem pmk_oexF {X : Cx} {e : Expr} {ta : TA} {p pos : Pos} {x f : Str} {C : Addr} {k : Nat} (T : Xc X.prog X.w X.K X.mg X.base x f C) (hr : Room k X.A) (ha : PA X [e] ta) (hk : 2 ≤ k := by decide) (hg : Gl X x := by rfl)
    (hdb : (x == ("__debug__" : Str)) = false := by decide) (he : starEach [e] X.env = (false, eval e X.env) :: starEach [] X.env := by rfl) (hpl : (backTo pos (starEach [] X.env)).any (·.1) = false := by rfl) :
    L2N.PMk X (.Call (.Name x p) [e] [] pos) (tMkO C (spXI X.K f) [] ta) := by
  obtain ⟨fI, fd, h1, h2, h3, h4⟩ := T.ini
  exact pmk_oexN T.oex h1 h2 h3 (hr.mono hk) h4 passN hg T.gx ha hdb he hpl
/-- an exception class of the program without fields, made with a text -/
structure Xo (K : PySem.W.Frag) (mg : Str → Option Value) (x : Str) (C : Addr) : Prop where
  gx : mg x = some (.ref C)
  ex : PySem.W.excIn K C [.type "ValueError", .type "Exception", .type "BaseException", .type "object"] "ValueError.__new__" = true
  kp : PySem.W.keepIn K (.ref C) = true
  sb : PySem.W.subIn K (.ref C) (.type "BaseException") = some true
  ty : PySem.W.typeIn K (.ref C) = some (.type "type")
theorem pmk_ownF {X : Cx} {x m : Str} {j : Nat} {p p2 pos : Pos} {C : Addr} (T : Xo X.K X.mg x C) (hg : Gl X x := by rfl) (hdb : (x == ("__debug__" : Str)) = false := by decide) : L2N.PMk X (.Call (.Name x p) [.Constant (.str m) j p2] [] pos) (fun _ H Q => Q (.ref C) none H) :=
  L2N.pmk_own PySem.F.excBase_ValueError T.ex T.gx T.kp (raises_own T.sb T.ty) hg hdb
section
variable {K : PySem.W.Frag} {G G0 G1 G2 H H0 H1 H2 H3 G3 : Hp} {ρ ρ1 : Ro} {cs : Cs} {ta tb te tx : TE} {tt : TT} {d d' e x y z : D} {W : WX} {bs : List Addr} {P : Po} {t u v : TS}
theorem sv_raiseF {ta : TA} {C : Addr} {f : Str} (T : OexC K C) (nf : PySem.W.findIn K (.ref C) f = some none) (h : EvA K ta ρ cs [d]) (k : P.ex ρ cs (.ref C) (some [(f, d)])) :
    Sv K W bs (fun _ σ H => tMkO C (spXI K f) [] ta σ H fun cls d H' => W cls d σ H') ρ cs P := fun G0 H0 G H σ E r e o => h G H σ r.wl e _ fun vs G2 H2 n rv => by
  cases rv with
  | @cons y _ _ _ ry r1 =>
    cases r1
    refine ⟨by simp, fun a ha => ⟨a, C, y, rfl, T, nf, upd_same, fun dx hdx hne => ⟨rfl, dx, [(f, y)], upd_same, ?_, ?_, ?_⟩⟩⟩
    · rw [upd_ne hne, upd_same]
    · rw [upd_ne hne] at hdx
      exact hdx
    · have hdx2 : H2 dx = none := by
        rw [upd_ne hne] at hdx
        exact hdx
      have eH : upd (del (upd (upd (upd H2 a (exo a C none)) dx (exd dx [(f, y)])) a (exo a C (some dx))) a) dx (.xd [(f, y)]) = upd H2 dx (.xd [(f, y)]) := by
        funext b
        unfold upd del
        by_cases hb : b = dx
        · simp [hb]
        · by_cases hba : b = a
          · simp [hb, hba, ha]
          · simp [hb, hba]
      have r2 := r.step n
      have n3 : Nx G2 H2 G2 (upd H2 dx (.xd [(f, y)])) := Nx.newc n.s hdx2
      have q := o.ex G2 (upd H2 dx (.xd [(f, y)])) σ ρ cs (.ref C) (some dx) (some [(f, d)]) (r2.step n3) (e.mono n.g) ⟨dx, [(f, y)], rfl, upd_same, .cons ry .nil⟩ (fun p hp => by
        cases hp
        have z := r2.none0 hdx2
        exact ⟨z.1, Evl.fresh_back n.s hdx2, z.2.2⟩) k
      rw [← eH] at q
      exact q
theorem sv_raiseO {C : Addr} (k : P.ex ρ cs (.ref C) none) : Sv K W bs (fun _ σ H => (fun (_ : L2.St) (H : Hp) (Q : XK) => Q (.ref C) none H) σ H fun cls d H' => W cls d σ H') ρ cs P := fun G0 H0 G H σ E r e o => o.ex G H σ ρ cs (.ref C) none none r e rfl (fun p hp => by cases hp) k
/-! ### a call that may raise -/
def SpX (K : PySem.W.Frag) (sp : Sp) (ds : List D) (o : Out) : Prop := ∀ G H vs, Ex G H → RepL K G vs ds → ∀ (Q : VK) (E : XK), Gets K G H Q E o → sp vs H Q E
theorem spO_x {n : Nat} {A : List D → Out → Prop} {ds : List D} {o : Out} (h : A ds o) (hn : ds.length = n) : SpX K (spO K n A) ds o := fun G H vs s r Q E q => ⟨G, ds, o, s, r, hn, h, q⟩
theorem SpX.sd {sp : Sp} {ds : List D} (h : SpX K sp ds (.ret z)) : SpD K sp ds z := fun G H vs s r Q E q => h G H vs s r Q E q
/-- a value, or an exception that leaves -/
def EvE (K : PySem.W.Frag) (W : WX) (te : TE) (ρ : Ro) (cs : Cs) (o : Out) : Prop := ∀ G H σ, Wl K G H cs → Env K G σ ρ → ∀ Q : VK, Gets K G H Q (WE W σ) o → te σ H Q
theorem Ev.ee (h : Ev K te ρ cs z) : EvE K W te ρ cs (.ret z) := fun G H σ w e Q q => h G H σ w e Q q
theorem gets_step {Q : VK} {E : XK} {o : Out} (n : Nx G H G2 H2) (q : Gets K G H Q E o) : Gets K G2 H2 Q E o := by
  cases o with
  | ret d => exact fun v G3 H3 n3 r => q v G3 H3 (n.trans n3) r
  | new ds => exact fun p us G3 H3 n3 hp gp h3 r => q p us G3 H3 (n.trans n3) (Evl.fresh_back n.h hp) gp h3 r
  | exc cls fs => exact fun dd G3 H3 n3 x xn => q dd G3 H3 (n.trans n3) x fun p hp => ⟨Evl.fresh_back n.h (xn p hp).1, (xn p hp).2.1, (xn p hp).2.2⟩
theorem ee_callS {sp : Sp} {ta : TA} {ds : List D} {o : Out} (h : EvA K ta ρ cs ds) (hs : SpX K sp ds o) : EvE K W (tCallS sp (WE W) ta) ρ cs o := fun G H σ w e Q q =>
  h G H σ w e _ fun vs G2 H2 n rs => hs G2 H2 vs n.s rs Q _ (gets_step n q)
theorem ev_callS {sp : Sp} {ta : TA} {ds : List D} (h : EvA K ta ρ cs ds) (hs : SpD K sp ds z) : Ev K (tCallS sp (WE W) ta) ρ cs z := fun G H σ w e Q q =>
  h G H σ w e _ fun vs G2 H2 n rs => hs G2 H2 vs n.s rs Q _ fun v G3 H3 n3 r => q v G3 H3 (n.trans n3) r
theorem en_callS {sp : Sp} {ta : TA} {ds zs : List D} (h : EvA K ta ρ cs ds) (hs : SpN K sp ds zs) : EvN K (tCallS sp (WE W) ta) ρ cs zs := fun G H σ w e Q q =>
  h G H σ w e _ fun vs G2 H2 n rs => hs G2 H2 vs n.s rs Q _ fun p us G3 H3 n3 hp gp h3 r => q p us G3 H3 (n.trans n3) (Evl.fresh_back n.h hp) gp h3 r
/-- a statement e, which raises -/
theorem sv_dropX {cls : Value} {fs : Option (List (Str × D))} (h : EvE K W te ρ cs (.exc cls fs)) (k : P.ex ρ cs cls fs) : Sv K W bs (tDrop te) ρ cs P := fun G0 H0 G H σ E r e o =>
  h G H σ r.wl e _ fun dd G2 H2 n x xn => o.ex G2 H2 σ ρ cs cls dd fs (r.step n) (e.mono n.g) x (fun p hp => ⟨(r.none0 (xn p hp).1).1, (xn p hp).2.1, (r.none0 (xn p hp).1).2.2⟩) k
theorem sv_asgX {g : TG} {cls : Value} {fs : Option (List (Str × D))} (h : EvE K W te ρ cs (.exc cls fs)) (k : P.ex ρ cs cls fs) : Sv K W bs (tAsg te g) ρ cs P := fun G0 H0 G H σ E r e o =>
  h G H σ r.wl e _ fun dd G2 H2 n x xn => o.ex G2 H2 σ ρ cs cls dd fs (r.step n) (e.mono n.g) x (fun p hp => ⟨(r.none0 (xn p hp).1).1, (xn p hp).2.1, (r.none0 (xn p hp).1).2.2⟩) k
theorem sv_retX {cls : Value} {fs : Option (List (Str × D))} (h : EvE K W te ρ cs (.exc cls fs)) (k : P.ex ρ cs cls fs) : Sv K W bs (tRet te) ρ cs P := fun G0 H0 G H σ E r e o =>
  h G H σ r.wl e _ fun dd G2 H2 n x xn => o.ex G2 H2 σ ρ cs cls dd fs (r.step n) (e.mono n.g) x (fun p hp => ⟨(r.none0 (xn p hp).1).1, (xn p hp).2.1, (r.none0 (xn p hp).1).2.2⟩) k
/-! ### try .. except X as n -/
def exC (dd : Option Addr) (fs : Option (List (Str × D))) (cs : Cs) : Cs := match dd, fs with
  | some p, some fs => (p, .xdc fs) :: cs
  | _, _ => cs
def ddOk (dd : Option Addr) (fs : Option (List (Str × D))) : Prop := dd.isSome = fs.isSome
theorem sv_try {tb : WX → TS} {ts : Addr → Value → Option Addr → TS} {c : Value} {i : Nat}
    (h : ∀ W', Sv K W' bs (tb W') ρ cs { P with ex := fun ρ' cs' cls fs => ∃ b, PySem.W.exmOne K cls c = some b ∧
      (b = true → ∀ a dd, ddOk dd fs → (∀ p, dd = some p → p ∉ bs ∧ ∀ c ∈ cs', c.1 ≠ p) → Sv K W bs (ts a cls dd) (ρ'.set i (some (.any (.ref a)))) (exC dd fs cs') { nx := fun ρ2 cs2 => P.nx (ρ2.set i none) cs2, rt := P.rt, bk := fun ρ2 cs2 => P.bk (ρ2.set i none) cs2, ct := fun ρ2 cs2 => P.ct (ρ2.set i none) cs2, ex := P.ex }) ∧ (b = false → P.ex ρ' cs' cls fs) }) :
    Sv K W bs (fun D σ H => tb (wAs K c i ts W D) D σ H) ρ cs P := fun G0 H0 G H σ E r e o => by
  refine h _ G0 H0 G H σ E r e ⟨o.nx, o.rt, o.bk, o.ct, fun G2 H2 σ2 ρ2 cs2 cls dd fs r2 e2 x xn k => ?_⟩
  obtain ⟨b, hb, k1, k2⟩ := k
  refine ⟨b, hb, fun hbt a ha => ?_, fun hbf => o.ex G2 H2 σ2 ρ2 cs2 cls dd fs r2 e2 x xn (k2 hbf)⟩
  have key : ∀ cs3, Rl K G0 H0 bs G2 H2 cs3 → Sv K W bs (ts a cls dd) (ρ2.set i (some (.any (.ref a)))) cs3 { nx := fun ρ2 cs2 => P.nx (ρ2.set i none) cs2, rt := P.rt, bk := fun ρ2 cs2 => P.bk (ρ2.set i none) cs2, ct := fun ρ2 cs2 => P.ct (ρ2.set i none) cs2, ex := P.ex } →
      ts a cls dd { nx := fun σ' H' => E.nx (σ'.set i none) H', rt := E.rt, bk := fun σ' H' => E.bk (σ'.set i none) H', ct := fun σ' H' => E.ct (σ'.set i none) H' } (σ2.set i (some (.ref a))) H2 := fun cs3 r3 k3 =>
    k3 G0 H0 G2 H2 _ _ r3 (e2.set i (.any _)) ⟨fun G H σ ρ cs r e k => o.nx G H _ _ cs r (e.setN i) k, o.rt, fun G H σ ρ cs r e k => o.bk G H _ _ cs r (e.setN i) k, fun G H σ ρ cs r e k => o.ct G H _ _ cs r (e.setN i) k, o.ex⟩
  cases fs with
  | none =>
    have hd : dd = none := x
    subst hd
    exact key cs2 r2 (k1 hbt a none rfl (fun p hp => by cases hp))
  | some fs =>
    obtain ⟨p, vs, rfl, hp, rf⟩ := x
    obtain ⟨z0, z1, z2⟩ := xn p rfl
    have hb : p ∉ bs := fun hb => by
      obtain ⟨o', ho⟩ := r2.b0 p hb
      rw [z0] at ho
      cases ho
    refine key ((p, .xdc fs) :: cs2) ⟨⟨r2.wl.sub, fun c h => ?_, ?_⟩, r2.g0, r2.h0, r2.nw, fun c h => ?_, r2.bd, r2.b0⟩ (k1 hbt a (some p) rfl (fun q hq => by cases hq; exact ⟨hb, z2⟩))
    · rcases List.mem_cons.mp h with rfl | h
      · exact ⟨z1, vs, hp, rf⟩
      · exact r2.wl.cell c h
    · rw [List.map_cons, List.nodup_cons]
      refine ⟨fun h => ?_, r2.wl.nd⟩
      obtain ⟨c, h1, h2⟩ := List.mem_map.mp h
      exact z2 c h1 h2
    · rcases List.mem_cons.mp h with rfl | h
      · exact .inr z0
      · exact r2.cl c h
end
end Lv

namespace Lv
open PySem L2
open Evl (Ex)
/-- a method of the class at C -/
structure Mx (P : Program) (w : World) (K : PySem.W.Frag) (mg : Str → Option Value) (base : Heap) (k : Nat) (C : Addr) (m : Str) (ps : List Str) (sp : Sp) : Prop where
  cls : Cls K C
  ex : ∃ f fd, Meth K C m f ∧ FnOk P w K mg base (L2N.CX P w) k f fd ps sp ∧ Binds K fd ps []
/-- a class at C that is made by its __init__ -/
structure Cx1 (P : Program) (w : World) (K : PySem.W.Frag) (mg : Str → Option Value) (base : Heap) (k : Nat) (x : Str) (C : Addr) (ps : List Str) (sp : Sp) : Prop where
  gx : mg x = some (.ref C)
  ex : ∃ f fd, Mk K C f ∧ FnOk P w K mg base (L2N.CX P w) k f fd ps sp ∧ Binds K fd ps []
def tMethW (C : Addr) (m : Str) (sp : Sp) (E : L2.St → XK) (ta : TE) (t : TA) : TE := fun σ H Q => ta σ H fun x H1 => ∃ a dx fs, x = .ref a ∧ H1 a = some (.ins C dx fs) ∧ fs.lookup m = none ∧ t σ H1 fun vs H2 => sp (x :: vs) H2 Q (E σ)
def tMakeS (C : Addr) (sp : Sp) (E : L2.St → XK) (t : TA) : TE := fun σ H Q => t σ H fun vs H1 => ∀ x dx, H1 x = none → H1 dx = none → dx ≠ x →
  sp (.ref x :: vs) (upd (upd H1 dx (.own x)) x (.ins C dx [])) (fun v H2 => v = .non ∧ Q (.ref x) H2) (E σ)
section
variable {X : Cx} {k j : Nat} {f C : Addr} {fd : FuncData} {ps : List Str} {sp : Sp} {x m : Str} {p pos apos : Pos} {e o : Expr} {es : List Expr} {ta tb : TE} {t : TA} {W : WX}
theorem pe_methF {pl : Sem Bool} (M : Mx X.prog X.w X.K X.mg X.base j C m ps sp) (hr : Room k X.A) (ho : PE X o ta) (ha : PA X (e :: es) t) (hj : j ≤ k := by decide)
    (hst : starEach (e :: es) X.env = (false, eval e X.env) :: starEach es X.env := by rfl) (hpl : (backTo pos (starEach es X.env)).any (·.1) = false := by rfl)
    (ht : eval (.Call (.Attribute o m apos) (e :: es) [] pos) X.env = (do
      let ov ← eval o X.env
      standAt apos.atName
      let (f, first) ← holding [ov] (getMethod ov m pl)
      callWith pos f first (backTo pos (starEach (e :: es) X.env)) (backToKw pos (keywordEach [] X.env))) := by rfl) : PE X (.Call (.Attribute o m apos) (e :: es) [] pos) (tMeth C m sp [] E0 ta t) := by
  obtain ⟨f, fd, h1, h2, h3⟩ := M.ex
  exact pe_meth ho M.cls h1 h2 (hr.mono hj) h3 .nil passN ha hst hpl ht
theorem pe_methFS {pl : Sem Bool} (tk : L2N.Takes X W) (M : Mx X.prog X.w X.K X.mg X.base j C m ps sp) (hr : Room k X.A) (ho : PE X o ta) (ha : PA X (e :: es) t) (hj : j ≤ k := by decide)
    (hst : starEach (e :: es) X.env = (false, eval e X.env) :: starEach es X.env := by rfl) (hpl : (backTo pos (starEach es X.env)).any (·.1) = false := by rfl)
    (ht : eval (.Call (.Attribute o m apos) (e :: es) [] pos) X.env = (do
      let ov ← eval o X.env
      standAt apos.atName
      let (f, first) ← holding [ov] (getMethod ov m pl)
      callWith pos f first (backTo pos (starEach (e :: es) X.env)) (backToKw pos (keywordEach [] X.env))) := by rfl) : PE X (.Call (.Attribute o m apos) (e :: es) [] pos) (tMethW C m sp (WE W) ta t) := by
  obtain ⟨f, fd, h1, h2, h3⟩ := M.ex
  refine ⟨fun pins s σ H Q I h => PySem.W.methodCall_KW (pl := pl) (thn (ho.run pins s σ H _ I h) fun u s1 z => ?_) ht⟩
  obtain ⟨y, H1, I1, ry, a, dx, fs, rfl, ea, l, q⟩ := z
  cases ry
  refine getmeth_ok I1 ea M.cls h1 l (PySem.W.callWith_K (first := [.ref a]) (h₀ := X.base) I.ok.mod.kin h1.kp (thn (ha.run pos pins s1 σ H1 _ I1 q) fun us s2 z => ?_) hst hpl)
  obtain ⟨vs, H2, I2, r, q2⟩ := z
  exact ⟨I2.kIn, run_fnS (E := WE W) (us := .ref a :: us) (vs := .ref a :: vs) h2 (hr.mono hj) h3 (L2N.passAt tk σ) I2 (.cons rfl r) q2⟩
theorem pe_methF0 {pl : Sem Bool} (M : Mx X.prog X.w X.K X.mg X.base j C m ps sp) (hr : Room k X.A) (ho : PE X o ta) (hj : j ≤ k := by decide)
    (ht : eval (.Call (.Attribute o m apos) [] [] pos) X.env = (do
      let ov ← eval o X.env
      standAt apos.atName
      let (f, first) ← holding [ov] (getMethod ov m pl)
      callWith pos f first (backTo pos (starEach [] X.env)) (backToKw pos (keywordEach [] X.env))) := by rfl) : PE X (.Call (.Attribute o m apos) [] [] pos) (tMeth C m sp [] E0 ta tNil) := by
  obtain ⟨f, fd, h1, h2, h3⟩ := M.ex
  exact pe_meth0 ho M.cls h1 h2 (hr.mono hj) h3 .nil passN ht
theorem pe_makeF (M : Cx1 X.prog X.w X.K X.mg X.base j x C ps sp) (hr : Room k X.A) (ha : PA X (e :: es) t) (hj : j + 1 ≤ k := by decide) (hg : Gl X x := by rfl) (hdb : (x == ("__debug__" : Str)) = false := by decide)
    (he : starEach (e :: es) X.env = (false, eval e X.env) :: starEach es X.env := by rfl) (hpl : (backTo pos (starEach es X.env)).any (·.1) = false := by rfl) : PE X (.Call (.Name x p) (e :: es) [] pos) (tMake C sp [] E0 t) := by
  obtain ⟨f, fd, h1, h2, h3⟩ := M.ex
  exact pe_make h1 h2 (hr.mono hj) hg M.gx h3 .nil passN ha hdb he hpl
theorem pe_makeFS (tk : L2N.Takes X W) (M : Cx1 X.prog X.w X.K X.mg X.base j x C ps sp) (hr : Room k X.A) (ha : PA X (e :: es) t) (hj : j + 1 ≤ k := by decide) (hg : Gl X x := by rfl) (hdb : (x == ("__debug__" : Str)) = false := by decide)
    (he : starEach (e :: es) X.env = (false, eval e X.env) :: starEach es X.env := by rfl) (hpl : (backTo pos (starEach es X.env)).any (·.1) = false := by rfl) : PE X (.Call (.Name x p) (e :: es) [] pos) (tMakeS C sp (WE W) t) := by
  obtain ⟨f, fd, h1, F, hb⟩ := M.ex
  refine ⟨fun pins s σ H Q I h => wpAny_Call_Name_kw (ld_glob I hg M.gx ?_ hdb)⟩
  refine PySem.W.callWith_K (h₀ := X.base) I.ok.mod.kin h1.kp (thn (ha.run pos pins s σ H _ I h) fun us s1 z => ?_) he hpl
  obtain ⟨vs, H1, I1, r, q⟩ := z
  refine ⟨I1.kIn, ?_⟩
  show wpAny _ _ (call (.ref C) us) _ _ _
  have hq := q (s1.heap.objs.size + 1) s1.heap.objs.size (I1.hok.fresh (Nat.le_succ _)) (I1.hok.fresh (Nat.le_refl _)) (Nat.ne_of_lt (Nat.lt_succ_self _))
  have I2 := Inv.made (C := C) I1
  have r2 : Vals (V.ref (s1.heap.objs.size + 1) :: vs) (Value.ref (s1.heap.objs.size + 1) :: us) := .cons rfl r
  have hl : (Value.ref (s1.heap.objs.size + 1) :: us ++ ([] : List Value)).length = ps.length := by
    have z := r2.length
    rw [F.len _ _ _ _ hq] at z
    rw [List.append_nil]
    exact z.symm
  have bnd := hb _ (Value.ref (s1.heap.objs.size + 1) :: us) I2.kIn hl
  rw [List.append_nil] at bnd
  have hr2 : Room (j + 1) X.A := hr.mono hj
  have run := F.run _ X.stack _ _ ⟨Value.ref (s1.heap.objs.size + 1) :: us, []⟩ _ _ _ (WE W σ) (hr2.make C us []) (I2.env0.make C us []) bnd r2 hq
  refine wpAny_call (make_map (f := f) I1.kIn h1.makes h1.init (beq_iff_eq.mp h1.fn) (codeAny_mono run fun rs s' hq' => ?_))
  cases rs with
  | error er => exact L2N.passAt tk σ pins _ _ er s' I2 hq'
  | ok fl =>
    cases fl with
    | ret u =>
      obtain ⟨v, H', I3, rv, ev, q3⟩ := I2.after hq'
      subst ev
      exact ⟨rv, ⟨V.ref (s1.heap.objs.size + 1), H', I3, rfl, q3⟩⟩
    | next => exact False.elim hq'
    | brk => exact False.elim hq'
    | cont => exact False.elim hq'
/-! ### a op b by the class's own method -/
def tOwn (C : Addr) (sp : Sp) (E : L2.St → XK) (ta tb : TE) : TE := fun σ H Q => ta σ H fun x H1 => tb σ H1 fun y H2 => ∃ a b dx dy fs gs, x = .ref a ∧ y = .ref b ∧ H2 a = some (.ins C dx fs) ∧ H2 b = some (.ins C dy gs) ∧ sp [x, y] H2 Q (E σ)
structure Ox (P : Program) (w : World) (K : PySem.W.Frag) (mg : Str → Option Value) (base : Heap) (k : Nat) (C : Addr) (op : Operator) (ps : List Str) (sp : Sp) : Prop where
  sf : PySem.W.selfFirst K C = true
  ex : ∃ f fd, PySem.W.findIn K (.ref C) (PySem.dunder op.info.2) = some (some (.ref f)) ∧ PySem.W.isFn K (.ref f) = true ∧ FnOk P w K mg base (L2N.CX P w) k f fd ps sp ∧ Binds K fd ps []
theorem cmpBack_of {Q : Value → Shared → Prop} {v : V} {u : Value} {s' : Shared} (r : RelV v u) (q : Q u s') : PySem.W.CmpBack Q u s' := by
  cases v with
  | non => cases r; exact q
  | bl b => cases r; exact q
  | int i => obtain ⟨t, rfl⟩ := r; exact q
  | str i => obtain ⟨t, rfl⟩ := r; exact q
  | byt i => obtain ⟨t, rfl⟩ := r; exact q
  | flt i => obtain ⟨t, rfl⟩ := r; exact q
  | ref i => cases r; exact q
  | ty i => cases r; exact q
theorem own_run {E : L2.St → XK} {op : Operator} {a b : Expr} (O : Ox X.prog X.w X.K X.mg X.base j C op ps sp) (hr : Room k X.A) (hx : ∀ σ, PassesAt (L2N.CX X.prog X.w) X σ (E σ)) (ha : PE X a ta) (hb : PE X b tb) (hj : j ≤ k := by decide) : PE X (.BinOp a op b pos) (tOwn C sp E ta tb) := by
  obtain ⟨f, fd, h1, h2, h3, h4⟩ := O.ex
  refine ⟨fun pins s σ H Q I h => wpAny_BinOp (binT ha hb I h fun v u s2 x y H2 I2 rx ry q => ?_)⟩
  obtain ⟨a, b, dx, dy, fs, gs, rfl, rfl, ea, eb, q⟩ := q
  cases rx
  cases ry
  obtain ⟨mA, J, _⟩ := ins_get I2.hok ea
  obtain ⟨mB, J', _⟩ := ins_get I2.hok eb
  obtain ⟨od, J, _⟩ := J.look
  obtain ⟨od', J', _⟩ := J'.look
  obtain ⟨m, hF⟩ := I2.fr
  refine PySem.W.binop_K hF I2.ok.mod.kin J J'.type O.sf h1 h2 ?_
  refine wpAny_mono (run_fnS (E := E) (us := [.ref a, .ref b]) (vs := [.ref a, .ref b]) h3 (hr.mono hj) h4 (hx σ) I2 (.cons rfl (.cons rfl .nil)) q) (fun r s' z => ?_) fun _ _ z => z
  obtain ⟨v, H', I', rv, q'⟩ := z
  exact cmpBack_of rv ⟨v, H', I', rv, q'⟩
end
end Lv

namespace Lv
open PySem L2
open Evl (Ex)
/-! ### __init__ -/
def GetsI (K : PySem.W.Frag) (C x : Addr) (G H : Hp) (Q : VK) (E : XK) : Out → Prop
  | .ret (.obj C' fs) => C' = C ∧ ∀ G2 H2 dx vs, Rl K G H [x] G2 H2 [] → G2 x = none → H2 x = some (.ins C dx vs) → RepF K G2 vs fs → Q .non H2
  | .exc cls fs => ∀ dd G2 H2, Rl K G H [x] G2 H2 [] → Xr K G2 H2 dd fs → Xn H G2 [] dd → E cls dd H2
  | _ => False
def spI (K : PySem.W.Frag) (C : Addr) (n : Nat) (A : List D → Out → Prop) : Sp := fun vs H Q E => ∃ x dx us G ds o, vs = .ref x :: us ∧ H x = some (.ins C dx []) ∧ G x = none ∧ Ex G H ∧ RepL K G us ds ∧ ds.length = n ∧ A ds o ∧ GetsI K C x G H Q E o
def madeI (C x : Addr) (cs : Cs) : Out → Prop
  | .ret (.obj C' fs) => C' = C ∧ (x, .obj C fs) ∈ cs
  | _ => False
def poI (C x : Addr) (o : Out) : Po where
  nx := fun _ cs => madeI C x cs o
  rt := fun d cs => d = .non ∧ madeI C x cs o
  ex := fun _ _ cls fs => o = .exc cls fs
section
variable {K : PySem.W.Frag} {G G0 G1 G2 H H0 H1 H2 H3 G3 : Hp} {ρ ρ1 : Ro} {cs : Cs} {ta tb te tx : TE} {tt : TT} {d d' e x y z : D} {W : WX} {bs : List Addr} {P : Po} {t u : TS}
theorem Rl.nocs (r : Rl K G0 H0 bs G H cs) : Rl K G0 H0 bs G H [] := ⟨⟨r.wl.sub, fun c h => by simp at h, by simp⟩, r.g0, r.h0, r.nw, fun c h => by simp at h, r.bd, r.b0⟩
theorem run_ofI {N : List Str} {vs : List V} {ds : List D} {o : Out} {Q : VK} {E : XK} {C a dx : Addr} (s : Ex G H) (r : RepL K G vs ds) (ha : H a = some (.ins C dx [])) (ga : G a = none) (h : Sv K (Wd E) [a] t (startD N (.any (.ref a) :: ds)) [(a, .obj C [])] (poI C a o)) (q : GetsI K C a G H Q E o) :
    t { nx := fun _ H' => Q .non H', rt := Q } (start N (.ref a :: vs)) H := by
  have r0 : Rl K G H [a] G H [(a, .obj C [])] := by
    refine ⟨⟨s, fun c hc => ?_, by simp⟩, Ex.refl _, fun b o h _ => h, fun b o h z => absurd (h.symm.trans z) (by simp), fun c hc => ?_, fun b hb => ?_, fun b hb => ?_⟩
    · rw [List.mem_singleton] at hc; subst hc; exact ⟨ga, dx, [], ha, .nil⟩
    · rw [List.mem_singleton] at hc; subst hc; exact .inl (by simp)
    · rw [List.mem_singleton] at hb; subst hb; exact ⟨_, ha⟩
    · rw [List.mem_singleton] at hb; subst hb; exact ⟨_, ha⟩
  have fin : ∀ G2 H2 cs, Rl K G H [a] G2 H2 cs → madeI C a cs o → Q .non H2 := fun G2 H2 cs rl k => by
    cases o with
    | ret d =>
      cases d with
      | obj C' fs =>
        obtain ⟨rfl, hc⟩ := k
        obtain ⟨g2, dx2, vs2, h2, rf⟩ := rl.wl.cell _ hc
        exact q.2 G2 H2 dx2 vs2 rl.nocs g2 h2 rf
      | _ => exact k.elim
    | _ => exact k.elim
  refine h G H G H (start N (.ref a :: vs)) _ r0 (start_env (.cons (.any _) r)) ⟨fun G2 H2 σ ρ cs rl e k => fin G2 H2 cs rl k, fun G2 H2 v d cs rl rv k => ?_, fun _ _ _ _ _ _ _ k => k.elim, fun _ _ _ _ _ _ _ k => k.elim, fun G2 H2 σ ρ cs cls dd fs rl e xr xn k => ?_⟩
  · obtain ⟨rfl, k⟩ := k
    cases rv
    exact fin G2 H2 cs rl k
  · have k' : o = .exc cls fs := k
    subst k'
    exact q dd G2 H2 rl.nocs xr (fun p hp => ⟨(xn p hp).1, (xn p hp).2.1, fun c hc => by simp at hc⟩)
/-- C(..) behind its arguments -/
theorem make_ok {sp : Sp} {n : Nat} {A : List D → Out → Prop} {C : Addr} {ds : List D} {vs : List V} {o : Out} {Q : VK} {E : XK} (s : Ex G H) (r : RepL K G vs ds) (hn : ds.length = n) (hA : A ds o) (ho : match o with | .ret (.obj C' _) => C' = C | .exc _ _ => True | _ => False) (q : Gets K G H Q E o)
    (a dx : Addr) (ha : H a = none) (hdx : H dx = none) (hne : dx ≠ a) : spI K C n A (.ref a :: vs) (upd (upd H dx (.own a)) a (.ins C dx [])) (fun v H2 => v = .non ∧ Q (.ref a) H2) E := by
  have ex : Ex H (upd (upd H dx (.own a)) a (.ins C dx [])) := (Ex.new hdx).mut ha
  have ga : G a = none := Evl.fresh_back s ha
  refine ⟨a, dx, vs, G, ds, o, rfl, upd_same, ga, s.trans ex, r, hn, hA, ?_⟩
  have base : ∀ G2 H2, Rl K G (upd (upd H dx (.own a)) a (.ins C dx [])) [a] G2 H2 [] → Nx G H G2 H2 := fun G2 H2 rl => by
    refine ⟨rl.g0, fun b o hb => ?_, rl.wl.sub, fun b o hb z => Evl.fresh_back ex (rl.nw b o hb z)⟩
    have hba : b ≠ a := ne_of_none hb ha
    exact rl.h0 b o (ex b o hb) (by simpa using hba)
  cases o with
  | ret d =>
    cases d with
    | obj C' fs =>
      have hC : C' = C := ho
      subst hC
      refine ⟨rfl, fun G2 H2 dx2 vs2 rl g2 h2 rf => ⟨rfl, ?_⟩⟩
      exact q (.ref a) _ H2 ((base G2 H2 rl).take ha h2 g2) (.obj upd_same (rf.mono (Ex.new g2)))
    | _ => exact ho.elim
  | new ds => exact ho.elim
  | exc cls fs => exact fun dd G2 H2 rl xr xn => q dd G2 H2 (base G2 H2 rl) xr fun p hp => ⟨Evl.fresh_back ex (xn p hp).1, (xn p hp).2.1, (xn p hp).2.2⟩
theorem ev_make {n : Nat} {A : List D → Out → Prop} {C : Addr} {fs : List (Str × D)} {ta : TA} {ds : List D} {E : XK} (h : EvA K ta ρ cs ds) (hA : A ds (.ret (.obj C fs))) (hn : ds.length = n) : Ev K (tMake C (spI K C n A) [] E ta) ρ cs (.obj C fs) := fun G H σ w e Q q =>
  h G H σ w e _ fun vs G2 H2 nx rs x dx hx hdx hne => by
    rw [List.append_nil]
    exact make_ok (o := .ret (.obj C fs)) (sp := fun _ _ _ _ => True) nx.s rs hn hA rfl (fun v G3 H3 n3 r => q v G3 H3 (nx.trans n3) r) x dx hx hdx hne
theorem ev_makeS {n : Nat} {A : List D → Out → Prop} {C : Addr} {fs : List (Str × D)} {ta : TA} {ds : List D} (h : EvA K ta ρ cs ds) (hA : A ds (.ret (.obj C fs))) (hn : ds.length = n) : Ev K (tMakeS C (spI K C n A) (WE W) ta) ρ cs (.obj C fs) := fun G H σ w e Q q =>
  h G H σ w e _ fun vs G2 H2 nx rs x dx hx hdx hne => make_ok (o := .ret (.obj C fs)) (sp := fun _ _ _ _ => True) nx.s rs hn hA rfl (fun v G3 H3 n3 r => q v G3 H3 (nx.trans n3) r) x dx hx hdx hne
theorem ee_makeS {n : Nat} {A : List D → Out → Prop} {C : Addr} {cls : Value} {fs : Option (List (Str × D))} {ta : TA} {ds : List D} (h : EvA K ta ρ cs ds) (hA : A ds (.exc cls fs)) (hn : ds.length = n) : EvE K W (tMakeS C (spI K C n A) (WE W) ta) ρ cs (.exc cls fs) := fun G H σ w e Q q =>
  h G H σ w e _ fun vs G2 H2 nx rs x dx hx hdx hne => make_ok (o := .exc cls fs) (sp := fun _ _ _ _ => True) nx.s rs hn hA trivial (gets_step nx q) x dx hx hdx hne
/-! ### methods and own operators -/
theorem ev_methW {C : Addr} {m : Str} {sp : Sp} {ta : TE} {t : TA} {fs : List (Str × D)} {ds : List D} (ho : Ev K ta ρ cs (.obj C fs)) (hm : fs.lookup m = none) (h : EvA K t ρ cs ds) (hs : SpD K sp (.obj C fs :: ds) z) : Ev K (tMethW C m sp (WE W) ta t) ρ cs z := fun G H σ w e Q q =>
  ho G H σ w e _ fun v G2 H2 n r => by
    cases r with
    | obj hg rf => exact ⟨_, _, _, rfl, n.s _ _ hg, rf.lookup_none hm, h G2 H2 σ (w.step n) (e.mono n.g) _ fun vs G3 H3 n2 rs => hs G3 H3 _ n2.s (.cons (.obj (n2.g _ _ hg) (rf.mono n2.g)) rs) Q _ fun v G4 H4 n3 r4 => q v G4 H4 ((n.trans n2).trans n3) r4⟩
theorem ee_methW {C : Addr} {m : Str} {sp : Sp} {ta : TE} {t : TA} {fs : List (Str × D)} {ds : List D} {o : Out} (ho : Ev K ta ρ cs (.obj C fs)) (hm : fs.lookup m = none) (h : EvA K t ρ cs ds) (hs : SpX K sp (.obj C fs :: ds) o) : EvE K W (tMethW C m sp (WE W) ta t) ρ cs o := fun G H σ w e Q q =>
  ho G H σ w e _ fun v G2 H2 n r => by
    cases r with
    | obj hg rf => exact ⟨_, _, _, rfl, n.s _ _ hg, rf.lookup_none hm, h G2 H2 σ (w.step n) (e.mono n.g) _ fun vs G3 H3 n2 rs => hs G3 H3 _ n2.s (.cons (.obj (n2.g _ _ hg) (rf.mono n2.g)) rs) Q _ (gets_step (n.trans n2) q)⟩
theorem ee_own {C : Addr} {sp : Sp} {ta tb : TE} {fs gs : List (Str × D)} {o : Out} (ha : Ev K ta ρ cs (.obj C fs)) (hb : Ev K tb ρ cs (.obj C gs)) (hs : SpX K sp [.obj C fs, .obj C gs] o) : EvE K W (tOwn C sp (WE W) ta tb) ρ cs o := fun G H σ w e Q q =>
  ha G H σ w e _ fun v G2 H2 n r => hb G2 H2 σ (w.step n) (e.mono n.g) _ fun u G3 H3 n2 r2 => by
    cases r with
    | obj hg rf =>
      cases r2 with
      | obj hg2 rf2 => exact ⟨_, _, _, _, _, _, rfl, rfl, n2.s _ _ (n2.g _ _ hg), n2.s _ _ hg2, hs G3 H3 _ n2.s (.cons (.obj (n2.g _ _ hg) (rf.mono n2.g)) (.cons (.obj hg2 rf2) .nil)) Q _ (gets_step (n.trans n2) q)⟩
theorem ev_own {C : Addr} {sp : Sp} {E : L2.St → XK} {ta tb : TE} {fs gs : List (Str × D)} (ha : Ev K ta ρ cs (.obj C fs)) (hb : Ev K tb ρ cs (.obj C gs)) (hs : SpD K sp [.obj C fs, .obj C gs] z) : Ev K (tOwn C sp E ta tb) ρ cs z := fun G H σ w e Q q =>
  ha G H σ w e _ fun v G2 H2 n r => hb G2 H2 σ (w.step n) (e.mono n.g) _ fun u G3 H3 n2 r2 => by
    cases r with
    | obj hg rf =>
      cases r2 with
      | obj hg2 rf2 => exact ⟨_, _, _, _, _, _, rfl, rfl, n2.s _ _ (n2.g _ _ hg), n2.s _ _ hg2, hs G3 H3 _ n2.s (.cons (.obj (n2.g _ _ hg) (rf.mono n2.g)) (.cons (.obj hg2 rf2) .nil)) Q _ fun v G4 H4 n3 r4 => q v G4 H4 ((n.trans n2).trans n3) r4⟩
/-! ### isinstance -/
theorem RepC.any {v u : V} (w : Wl K G H cs) (r : RepC K G cs v (.any u)) : v = u := by
  rcases r with r | ⟨a, e, c⟩
  · cases r; rfl
  · exact (w.cell _ c).2.elim
def tyD : D → Option String
  | .non => some "NoneType"
  | .bl _ => some "bool"
  | .int _ => some "int"
  | .str _ => some "str"
  | .lst _ => some "list"
  | .tup _ => some "tuple"
  | _ => none
theorem tyX_of {v : V} {n : String} (w : Wl K G H cs) (r : RepC K G cs v d) (h : tyD d = some n) : TyX K H v (.type n) := by
  cases d with
  | non => cases h; cases r.non w; exact .base .non
  | bl b => cases h; cases r.bl w; exact .base (.bl b)
  | int i => cases h; cases r.int w; exact .base (.int i)
  | str s => cases h; cases r.str w; exact .base (.str s)
  | lst ds => cases h; obtain ⟨a, vs, rfl, ha, _⟩ := r.seqL w; exact .base (.lst ha)
  | tup ds =>
    cases h
    obtain ⟨a, vs, rfl, ha, _⟩ := r.seqT w
    rcases ha with (ha | ⟨o, ha⟩) | ⟨o, its, m, h1, h2, _⟩
    · exact .base (.tup ha)
    · exact .fTuple ha
    · exact .kTuple h1 h2
  | _ => cases h
theorem cd_isi {n m : String} {b : Bool} (h : tyD d = some n) (hb : kitB n m = some b) : CallD K (rIsi K) cs [d, .any (.ty m)] (.bl b) := fun G H vs w r Q q => by
  cases r with
  | cons r0 r1 =>
    cases r1 with
    | cons r2 r3 =>
      cases r3
      cases r2.any w
      exact ⟨_, _, _, _, b, rfl, .ty m, tyX_of w r0 h, kit_ty hb, q _ G H (Nx.refl w.sub) (.bl _)⟩
/-- an own class whose instances isinstance asks -/
structure Ic (K : PySem.W.Frag) (C : Addr) : Prop where
  cl : Cls K C
  ha : PySem.W.findIn K (.ref C) "__class__" = some (some (.builtin "object.__class__"))
  hn : PySem.W.specialIn K (.builtin "object.__class__") "__get__" = some (some (.builtin "getset_descriptor.__get__"))
  ht : PySem.W.takesIn K (.builtin "object.__class__") = some true
  hm : PySem.W.mroIn K C (.type "object") = some true
theorem cd_isiO {C B : Addr} {fs : List (Str × D)} {b : Bool} (I : Ic K C) (hb : PySem.W.kitOne K (.ref C) (.ref B) = some b) : CallD K (rIsi K) cs [.obj C fs, .any (.ref B)] (.bl b) := fun G H vs w r Q q => by
  cases r with
  | cons r0 r1 =>
    cases r1 with
    | cons r2 r3 =>
      cases r3
      cases r2.any w
      obtain ⟨a, dx, us, rfl, ha, _⟩ := r0.objC w
      exact ⟨_, _, _, _, b, rfl, .own B, .base (.ins ha I.cl I.ha I.hn I.ht I.hm), hb, q _ G H (Nx.refl w.sub) (.bl _)⟩
end
/-! ### isinstance of a caught exception, with or without fields -/
/-- what the class at C says of its caught instances -/
structure Ec (K : PySem.W.Frag) (C : Addr) : Prop where
  cl : (PySem.W.clsIn K C).isSome = true
  hg : PySem.W.findIn K (.ref C) "__getattribute__" = some (some (.builtin "BaseException.__getattribute__"))
  hk : PySem.W.findIn K (.ref C) "__getattr__" = some none
  hs : PySem.W.subIn K (.ref C) (.type "BaseException") = some true
  hd : PySem.W.hasDictIn K C = true
  ha : PySem.W.findIn K (.ref C) "__class__" = some (some (.builtin "object.__class__"))
  hn : PySem.W.specialIn K (.builtin "object.__class__") "__get__" = some (some (.builtin "getset_descriptor.__get__"))
  ht : PySem.W.takesIn K (.builtin "object.__class__") = some true
  hm : PySem.W.mroIn K C (.type "object") = some true
def rIsX (K : PySem.W.Frag) (a : Addr) (cls : Value) (d : Option Addr) : List V → Hp → VK → Prop := fun xs H Q => ∃ (C : Addr) (c : V) (cv : Value) (b : Bool), cls = .ref C ∧ Ec K C ∧ xs = [.ref a, c] ∧ ClsV c cv ∧ PySem.W.kitOne K (.ref C) cv = some b ∧ (∀ p, d = some p → ∃ fs, H p = some (.xd fs)) ∧ Q (.bl b) H
theorem call_isX {X : Cx} {a : Addr} {oe : Obj} {cls : Value} {d : Option Addr} {pn : List (Addr × Obj)} (hz : Zc cls d oe) (hf : ∃ vs, oe.data = .fields vs) : CallR (X.suite a ((a, oe) :: pn)) (.builtin "isinstance") (rIsX X.K a cls d) := by
  intro pins s σ H xs us Q I r h
  obtain ⟨C, c, cv, b, rfl, T, rfl, hcv, e, hd, q⟩ := h
  obtain ⟨u1, u2, rfl, r1, r2⟩ := vals2 r
  cases r1
  have e2 := hcv.eq r2
  subst e2
  obtain ⟨hget, _⟩ := I.pin (a, oe) (List.mem_append_left _ List.mem_cons_self)
  obtain ⟨vs, hv⟩ := hf
  have no : PySem.W.notCls oe = true := by unfold PySem.W.notCls; rw [hv] <;> rfl
  have J : ∃ od, PySem.W.InstAt s.heap a oe C od := by
    cases d with
    | none => exact ⟨none, hget, hz.1, no, by rw [hz.2]; trivial⟩
    | some p =>
      obtain ⟨fs, hp⟩ := hd p rfl
      obtain ⟨mA, hns, _⟩ := (show ObjOk X.prog X.w H s.heap p (.xd fs) from I.hok p _ hp)
      obtain ⟨od, ho, _⟩ := lookIn_ns hns
      exact ⟨some od, hget, hz.1, no, by rw [hz.2]; exact ho⟩
  obtain ⟨od, J⟩ := J
  exact PySem.W.kia_one (PySem.W.kitx_exc T.cl T.hg T.hk T.hs T.ha T.hn T.ht T.hm) I.kIn J e (fun z => nomatch z) fun tk => ⟨.bl b, H, I.tok tk, rfl, q⟩
def tXfU (K : PySem.W.Frag) (a : Addr) (cls : Value) (d : Option Addr) (f : Str) (te : TE) : TE := fun σ H Q => ∃ C, Ec K C ∧ PySem.W.findIn K (.ref C) f = some none ∧ tXf a cls d C f te σ H Q
theorem pe_xfU {X : Cx} {a : Addr} {oe : Obj} {cls : Value} {d : Option Addr} {pn : List (Addr × Obj)} {e : Expr} {te : TE} {pos : Pos} {n : Str}
    (hz : Zc cls d oe) (hf : ∃ vs, oe.data = .fields vs) (he : PE (X.suite a ((a, oe) :: pn)) e te) (hb : attributeBase e n X.env (eval e X.env) = eval e X.env := by rfl) :
    PE (X.suite a ((a, oe) :: pn)) (.Attribute e n pos) (tXfU X.K a cls d n te) := ⟨fun pins s σ H Q I h => by
  obtain ⟨C, T, hno, h⟩ := h
  exact (pe_xf ⟨T.hg, T.hk, T.hs, T.hd⟩ hno hz hf he hb).run pins s σ H Q I h⟩
section
variable {K : PySem.W.Frag} {G G0 G1 G2 H H0 H1 H2 H3 G3 : Hp} {ρ ρ1 : Ro} {cs : Cs} {ta tb te tx : TE} {d x y z : D}
theorem cd_isX {C a : Addr} {dd : Option Addr} {c : V} {cv : Value} {b : Bool} (T : Ec K C) (hc : ClsV c cv) (hb : PySem.W.kitOne K (.ref C) cv = some b) (hd : ∀ p, dd = some p → ∃ fs, (p, .xdc fs) ∈ cs) : CallD K (rIsX K a (.ref C) dd) cs [.any (.ref a), .any c] (.bl b) := fun G H vs w r Q q => by
  cases r with
  | cons r0 r1 =>
    cases r1 with
    | cons r2 r3 =>
      cases r3
      cases r0.any w
      cases r2.any w
      refine ⟨C, c, cv, b, rfl, T, rfl, hc, hb, fun p hp => ?_, q _ G H (Nx.refl w.sub) (.bl _)⟩
      obtain ⟨fs, h⟩ := hd p hp
      obtain ⟨_, vs, hv, _⟩ := w.cell _ h
      exact ⟨vs, hv⟩
theorem ev_xf {C a p : Addr} {f : Str} {fs : List (Str × D)} (T : Ec K C) (nf : PySem.W.findIn K (.ref C) f = some none) (h : Ev K te ρ cs (.any (.ref a))) (hp : (p, .xdc fs) ∈ cs) (hl : fs.lookup f = some z) : Ev K (tXfU K a (.ref C) (some p) f te) ρ cs z := fun G H σ w e Q q =>
  ⟨C, T, nf, h G H σ w e _ fun v G2 H2 n r => by
    cases r
    obtain ⟨_, vs, hv, rf⟩ := (w.step n).cell _ hp
    obtain ⟨u, hu, ru⟩ := rf.lookup hl
    exact ⟨rfl, rfl, p, vs, u, rfl, hv, hu, q u G2 H2 n ru⟩⟩
end
end Lv

namespace Lv
open PySem L2
open Evl (Ex)
/-! ### a def called within an except suite -/
structure Hx (P : Program) (w : World) (K : PySem.W.Frag) (mg : Str → Option Value) (base : Heap) (k : Nat) (x : Str) (ps : List Str) (sp : Sp) : Prop where
  ex : ∃ f fd, L2H.FnH P w K mg base (L2N.CX P w) k f fd ps sp ∧ mg x = some (.ref f) ∧ PySem.W.keepIn K (.ref f) = true ∧ Binds K fd ps []
section
variable {P : Program} {w : World} {K : PySem.W.Frag} {mg : Str → Option Value} {base : Heap}
theorem fn_okH {x qual : Str} {st : Stmt} {f : Addr} {fd : FuncData} {N ps : List Str} {k n : Nat} {A : List D → Out → Prop} (F : FunU K x qual st f fd) (S : FnScope N ps (defScope st)) (hn : ps.length = n)
    (hbody : ∀ (cdv : Value) (A' : Around) (outer : List PySem.Env) (s : Shared) (H : Hp) (E : XK) (p : Addr × Obj), L2H.RoomH k (L2H.cxH (L2N.CX P w) P w K mg base N qual (defScope st) f cdv A' outer s H E p).A →
      ∃ t, PSs (L2H.cxH (L2N.CX P w) P w K mg base N qual (defScope st) f cdv A' outer s H E p) (defBody st) t ∧ ∀ ds o, ds.length = n → A ds o → Sv K (Wd E) [] t (startD N ds) [] (poOf o)) :
    L2H.FnH P w K mg base (L2N.CX P w) (k + 1) f fd ps (spO K n A) := by
  obtain ⟨oc, od, dV, kV, doc, pm, an, cdv, ct, osl, rfl, lk, hcd⟩ := F.ex
  refine L2H.fn_ofH lk hcd S (fun vs H Q E h => ?_) (fun A' outer s H vs Q E p hot hr h => ?_)
  · obtain ⟨G, ds, o, _, r, h1, _⟩ := h
    rw [r.length, h1, hn]
  · obtain ⟨G, ds, o, hs, r, h1, h2, q⟩ := h
    obtain ⟨t, ht, hv⟩ := hbody cdv A' outer s H E p hr
    exact ⟨t, ht, run_of hs r (hv ds o h1 h2) q⟩
theorem fn_okI {x qual : Str} {st : Stmt} {f C : Addr} {fd : FuncData} {N ps : List Str} {k n : Nat} {A : List D → Out → Prop} (F : FunU K x qual st f fd) (S : FnScope N ps (defScope st)) (hn : ps.length = n + 1)
    (hbody : ∀ (cdv : Value) (A' : Around) (outer : List PySem.Env) (s : Shared) (H : Hp) (E : XK), Room k (cxN P w K mg base N qual st f cdv A' outer s H E).A → L2N.Takes (cxN P w K mg base N qual st f cdv A' outer s H E) (Wd E) →
      PassesOwn (model P w) (cxN P w K mg base N qual st f cdv A' outer s H E).A (cxN P w K mg base N qual st f cdv A' outer s H E).env (cxN P w K mg base N qual st f cdv A' outer s H E).xe →
      ∃ t, PSs (cxN P w K mg base N qual st f cdv A' outer s H E) (defBody st) t ∧ ∀ a ds o, ds.length = n → A ds o → Sv K (Wd E) [a] t (startD N (.any (.ref a) :: ds)) [(a, .obj C [])] (poI C a o)) :
    FnOk P w K mg base (L2N.CX P w) (k + 1) f fd ps (spI K C n A) := by
  obtain ⟨oc, od, dV, kV, doc, pm, an, cdv, ct, osl, rfl, lk, hcd⟩ := F.ex
  refine fn_of lk hcd S (fun vs H Q E h => ?_) (fun A' outer s H vs Q E hr h => ?_)
  · obtain ⟨y, dx, us, G, ds, o, rfl, _, _, _, r, h1, _⟩ := h
    rw [List.length_cons, r.length, h1, hn]
  · obtain ⟨y, dx, us, G, ds, o, rfl, hx, gx, hs, r, h1, h2, q⟩ := h
    obtain ⟨t, ht, hv⟩ := hbody cdv A' outer s H E hr (L2N.takes_of rfl rfl rfl rfl) (passes_of rfl)
    exact ⟨t, ht, run_ofI hs r hx gx (hv y ds o h1 h2) q⟩
/-- __init__(self, f): self.f = f of an exception -/
theorem fn_okX {x qual fl : Str} {st : Stmt} {f : Addr} {fd : FuncData} {N : List Str} (F : FunU K x qual st f fd) (S : FnScope N ["self", fl] (defScope st)) (hN : N = (["self", fl] : List Str))
    (hbody : ∀ (cdv : Value) (A' : Around) (outer : List PySem.Env) (s : Shared) (H : Hp) (E : XK), PSs (cxN P w K mg base N qual st f cdv A' outer s H E) (defBody st) (tOst K fl (tVar 0) (tVar 1))) :
    FnOk P w K mg base (L2N.CX P w) 1 f fd ["self", fl] (spXI K fl) := by
  obtain ⟨oc, od, dV, kV, doc, pm, an, cdv, ct, osl, rfl, lk, hcd⟩ := F.ex
  refine fn_of lk hcd S (fun vs H Q E h => ?_) (fun A' outer s H vs Q E hr h => ⟨_, hbody cdv A' outer s H E, ?_⟩)
  · obtain ⟨a, C, v, rfl, _⟩ := h
    rfl
  · obtain ⟨a, C, v, rfl, T, nf, ha, q⟩ := h
    subst hN
    exact ⟨v, rfl, .ref a, rfl, a, C, rfl, T, nf, .inl ⟨ha, fun dx hdx hne => q dx hdx hne⟩⟩
end
theorem hot_of {X : Cx} {a : Addr} {oe : Obj} {cls : Value} {d : Option Addr} {pn : List (Addr × Obj)} (hz : L2N.Zn cls d oe) (hf : ∃ vs, oe.data = .fields vs) : L2H.HotC (X.suite a ((a, oe) :: pn)) := by
  obtain ⟨vs, hv⟩ := hf
  exact ⟨(a, oe), ⟨rfl, vs, hv, hz.2.2 vs hv⟩, List.mem_cons_self⟩
theorem pe_callHF {X : Cx} {k j : Nat} {x : Str} {ps : List Str} {sp : Sp} {e : Expr} {es : List Expr} {t : TA} {p pos : Pos} {a : Addr} {oe : Obj} {cls : Value} {d : Option Addr} {pn : List (Addr × Obj)} (hz : L2N.Zn cls d oe) (hf : ∃ vs, oe.data = .fields vs)
    (F : Hx X.prog X.w X.K X.mg X.base j x ps sp) (hr : Room k X.A) (ha : PA (X.suite a ((a, oe) :: pn)) (e :: es) t) (hj : j ≤ k := by decide) (hg : Gl X x := by rfl) (hdb : (x == ("__debug__" : Str)) = false := by decide)
    (he : starEach (e :: es) X.env = (false, eval e X.env) :: starEach es X.env := by rfl) (hpl : (backTo pos (starEach es X.env)).any (·.1) = false := by rfl) : PE (X.suite a ((a, oe) :: pn)) (.Call (.Name x p) (e :: es) [] pos) (tCallS sp (fun _ => E0) t) := by
  obtain ⟨f, fd, G, m, kp, b⟩ := F.ex
  exact L2H.pe_callH G (⟨(hr.mono hj).dp, (hr.mono hj).un⟩ : L2H.RoomH j (X.suite a ((a, oe) :: pn)).A) (hot_of hz hf) hg m kp b (fun σ pins H s e s' I c => passN pins σ H s e s' I c) ha hdb he hpl
theorem ev_callH {K : PySem.W.Frag} {ρ : Ro} {cs : Cs} {z : D} {sp : Sp} {E : L2.St → XK} {ta : TA} {ds : List D} (h : EvA K ta ρ cs ds) (hs : SpD K sp ds z) : Ev K (tCallS sp E ta) ρ cs z := fun G H σ w e Q q =>
  h G H σ w e _ fun vs G2 H2 n rs => hs G2 H2 vs n.s rs Q _ fun v G3 H3 n3 r => q v G3 H3 (n.trans n3) r
end Lv

namespace Lv
open PySem L2
open Evl (Ex)
abbrev ga (K : PySem.W.Frag) (x : Str) : Addr := He.ga K x
/-! ### facts of the head as Bools -/
def oexB (K : PySem.W.Frag) (C : Addr) : Bool := (match K.lookup C with
  | some ⟨.type "type", _, .cls cd, sl⟩ => (match cd.mro, sl.toList with
    | .ref C' :: bm, [_, _, _, _, some (.builtin n), _] => decide (C' = C) && (decide (n = "ValueError.__new__") && (cd.hasDict && (!cd.hasDel && PySem.HandSPX.refsVE bm)))
    | _, _ => false)
  | _ => false) && (He.eqO (PySem.W.findIn K (.ref C) "__setattr__") (some (some (.builtin "object.__setattr__"))) && (decide (PySem.W.subIn K (.ref C) (.type "BaseException") = some true) && (decide (PySem.W.typeIn K (.ref C) = some (.type "type")) && PySem.W.keepIn K (.ref C))))
theorem oexB_ok {K : PySem.W.Frag} {C : Addr} (h : oexB K C = true) : OexC K C := by
  obtain ⟨h1, h2⟩ := He.ba h
  obtain ⟨h3, h4⟩ := He.ba h2
  obtain ⟨h5, h6⟩ := He.ba h4
  obtain ⟨h7, h8⟩ := He.ba h6
  refine ⟨?_, He.eqO_ok h3, of_decide_eq_true h5, of_decide_eq_true h7, h8⟩
  split at h1
  · rename_i dd cd sl ho
    split at h1
    · rename_i C' bm k0 k1 k2 k3 n k5 hm hs
      obtain ⟨a1, a2⟩ := He.ba h1
      obtain ⟨a3, a4⟩ := He.ba a2
      obtain ⟨a5, a6⟩ := He.ba a4
      obtain ⟨a7, a8⟩ := He.ba a6
      have e1 := of_decide_eq_true a1
      have e2 := of_decide_eq_true a3
      obtain ⟨nm, bs, mro, ns, qn, hd, sn, sub, ab, col, del⟩ := cd
      dsimp only at hm a5 a7
      have e3 : del = false := by simpa using a7
      subst e1 e2 hm a5 e3
      have hsl : sl = #[k0, k1, k2, k3, some (.builtin "ValueError.__new__"), k5] := by
        obtain ⟨l⟩ := sl
        simp only at hs
        rw [hs]
      subst hsl
      exact ⟨_, _, _, _, _, _, _, _, _, _, _, _, _, _, _, ho, a8⟩
    · cases h1
  · cases h1
def ecB (K : PySem.W.Frag) (C : Addr) : Bool := (PySem.W.clsIn K C).isSome && (He.eqO (PySem.W.findIn K (.ref C) "__getattribute__") (some (some (.builtin "BaseException.__getattribute__"))) && (He.eqO (PySem.W.findIn K (.ref C) "__getattr__") (some none) && (decide (PySem.W.subIn K (.ref C) (.type "BaseException") = some true) && (PySem.W.hasDictIn K C &&
  (He.eqO (PySem.W.findIn K (.ref C) "__class__") (some (some (.builtin "object.__class__"))) && (He.eqO (PySem.W.specialIn K (.builtin "object.__class__") "__get__") (some (some (.builtin "getset_descriptor.__get__"))) && (decide (PySem.W.takesIn K (.builtin "object.__class__") = some true) && decide (PySem.W.mroIn K C (.type "object") = some true))))))))
theorem ecB_ok {K : PySem.W.Frag} {C : Addr} (h : ecB K C = true) : Ec K C := by
  obtain ⟨h1, h⟩ := He.ba h
  obtain ⟨h2, h⟩ := He.ba h
  obtain ⟨h3, h⟩ := He.ba h
  obtain ⟨h4, h⟩ := He.ba h
  obtain ⟨h5, h⟩ := He.ba h
  obtain ⟨h6, h⟩ := He.ba h
  obtain ⟨h7, h⟩ := He.ba h
  obtain ⟨h8, h9⟩ := He.ba h
  exact ⟨h1, He.eqO_ok h2, He.eqO_ok h3, of_decide_eq_true h4, h5, He.eqO_ok h6, He.eqO_ok h7, of_decide_eq_true h8, of_decide_eq_true h9⟩
def icB (K : PySem.W.Frag) (C : Addr) : Bool := He.eqO (PySem.W.findIn K (.ref C) "__class__") (some (some (.builtin "object.__class__"))) && (He.eqO (PySem.W.specialIn K (.builtin "object.__class__") "__get__") (some (some (.builtin "getset_descriptor.__get__"))) && (decide (PySem.W.takesIn K (.builtin "object.__class__") = some true) && decide (PySem.W.mroIn K C (.type "object") = some true)))
theorem icB_ok {K : PySem.W.Frag} {C : Addr} (c : Cls K C) (h : icB K C = true) : Ic K C := by
  obtain ⟨h6, h⟩ := He.ba h
  obtain ⟨h7, h⟩ := He.ba h
  obtain ⟨h8, h9⟩ := He.ba h
  exact ⟨c, He.eqO_ok h6, He.eqO_ok h7, of_decide_eq_true h8, of_decide_eq_true h9⟩
def xoB (K : PySem.W.Frag) (C : Addr) : Bool := PySem.W.excIn K C He.veBase "ValueError.__new__" && (PySem.W.keepIn K (.ref C) && (decide (PySem.W.subIn K (.ref C) (.type "BaseException") = some true) && decide (PySem.W.typeIn K (.ref C) = some (.type "type"))))
theorem xoB_ok {K : PySem.W.Frag} {mg : Str → Option Value} {x : Str} {C : Addr} (g : mg x = some (.ref C)) (h : xoB K C = true) : Xo K mg x C := by
  obtain ⟨h1, h⟩ := He.ba h
  obtain ⟨h2, h⟩ := He.ba h
  obtain ⟨h3, h4⟩ := He.ba h
  exact ⟨g, h1, h2, of_decide_eq_true h3, of_decide_eq_true h4⟩
/-- the exception class at C has an __init__ of its own -/
def xinB (K : PySem.W.Frag) (C : Addr) : Bool := He.eqO (PySem.W.findIn K (.ref C) "__init__") (some (some (.ref (He.ma K C "__init__")))) && decide (PySem.W.typeIn K (.ref (He.ma K C "__init__")) = some (.type "function"))
def kitB1 (K : PySem.W.Frag) (C : Addr) (c : Value) (b : Bool) : Bool := decide (PySem.W.kitOne K (.ref C) c = some b)
def exmB (K : PySem.W.Frag) (C B : Addr) (b : Bool) : Bool := decide (PySem.W.exmOne K (.ref C) (.ref B) = some b)
def noatB (K : PySem.W.Frag) (C : Addr) (f : Str) : Bool := He.eqO (PySem.W.findIn K (.ref C) f) (some none)
def ownB (K : PySem.W.Frag) (C : Addr) (m : Str) : Bool := PySem.W.selfFirst K C && (He.eqO (PySem.W.findIn K (.ref C) m) (some (some (.ref (He.ma K C m)))) && PySem.W.isFn K (.ref (He.ma K C m)))
/-! ### the law's end -/
theorem fn_no {P : Program} {w : World} {K : PySem.W.Frag} {mg : Str → Option Value} {base : Heap} {k : Nat} {f : Addr} {fd : FuncData} {ps : List Str} {sp : Sp} (F : FnOk P w K mg base (L2N.CX P w) k f fd ps sp) : FnOk P w K mg base CX0 k f fd ps (fun vs H Q _ => sp vs H Q E0) := by
  refine ⟨fun vs H Q E h => F.len vs H Q E0 h, fun A outer s H args us vs Q E hr he hb hv hs => codeAny_mono (F.run A outer s H args us vs Q E0 hr he hb hv hs) fun r s' hq => ?_⟩
  cases r with
  | ok fl => cases fl <;> exact hq
  | error e =>
    obtain ⟨_, _, _, _, _, _, _, _, _, _, _, _, z⟩ := (show L2N.CX P w outer H s E0 e s' from hq)
    exact z.elim
/-- the law called with the script gives True -/
theorem law_sp {K : PySem.W.Frag} {A : List D → Out → Prop} {H : Hp} {a : Addr} {ns : List Int} (hA : A [.scr ns] (.ret (.bl true))) (hS : SqL K H a (ns.map V.int)) : spO K 1 A [.ref a] H (fun v _ => v = .bl true) E0 :=
  ⟨H, [.scr ns], .ret (.bl true), Ex.refl _, .cons (.scr hS) .nil, rfl, hA, fun v G2 H2 _ r => by cases r; rfl⟩
end Lv

namespace Lv
open PySem L2
open Evl (Ex)
section
variable {K : PySem.W.Frag} {G G0 G1 G2 H H0 H1 H2 H3 G3 : Hp} {ρ ρ1 : Ro} {cs : Cs} {ta tb te tx : TE} {tt : TT} {d d' e x y z : D} {W : WX} {bs : List Addr} {P : Po} {t u v : TS}
/-- [e for x in range(n) if t] -/
theorem en_lcR {ta : TA} {j n : Nat} {vs : List Nat} {f : Nat → Bool} {v : Nat → D} (hi : EvA K ta ρ cs [.int (n : Int)]) (hn : n ≤ 100000) (hj : j ∈ vs)
    (ht : ∀ i, i < n → EvT K tt ((wipeD ρ vs).set j (some (.int (i : Int)))) cs (f i)) (he : ∀ i, i < n → f i = true → Ev K te ((wipeD ρ vs).set j (some (.int (i : Int)))) cs (v i)) :
    EvN K (tLc (iRng1 ta) (gName j) tt te vs) ρ cs (((List.range n).filter f).map v) :=
  en_lc (enc := fun i : Nat => D.int (i : Int)) (ρ' := fun i => (wipeD ρ vs).set j (some (.int (i : Int)))) (js := [j]) (ei_rng1 hi hn) (fun a _ => eg_name) (fun k hk => by rw [List.mem_singleton] at hk; rw [hk]; exact hj) (fun a ha => ht a (List.mem_range.mp ha)) (fun a ha => he a (List.mem_range.mp ha)) (by rw [List.length_range]; exact hn)
theorem en_mapR {ta : TA} {j n : Nat} {vs : List Nat} {v : Nat → D} (hi : EvA K ta ρ cs [.int (n : Int)]) (hn : n ≤ 100000) (hj : j ∈ vs)
    (he : ∀ i, i < n → Ev K te ((wipeD ρ vs).set j (some (.int (i : Int)))) cs (v i)) :
    EvN K (tLc (iRng1 ta) (gName j) tYes te vs) ρ cs ((List.range n).map v) :=
  en_map (enc := fun i : Nat => D.int (i : Int)) (ρ' := fun i => (wipeD ρ vs).set j (some (.int (i : Int)))) (js := [j]) (ei_rng1 hi hn) (fun a _ => eg_name) (fun k hk => by rw [List.mem_singleton] at hk; rw [hk]; exact hj) (fun a ha => he a (List.mem_range.mp ha)) (by rw [List.length_range]; exact hn)
/-- [e for x in xs if t] -/
theorem en_lcL {α : Type} {xs : List α} {enc : α → D} {wi : TI} {j : Nat} {vs : List Nat} {src : Cs} {f : α → Bool} {v : α → D} (hi : EvI K wi ρ cs src (xs.map enc)) (hn : xs.length ≤ 100000) (hj : j ∈ vs)
    (ht : ∀ a ∈ xs, EvT K tt ((wipeD ρ vs).set j (some (enc a))) cs (f a)) (he : ∀ a ∈ xs, f a = true → Ev K te ((wipeD ρ vs).set j (some (enc a))) cs (v a)) :
    EvN K (tLc wi (gName j) tt te vs) ρ cs ((xs.filter f).map v) :=
  en_lc (ρ' := fun a => (wipeD ρ vs).set j (some (enc a))) (js := [j]) hi (fun a _ => eg_name) (fun k hk => by rw [List.mem_singleton] at hk; rw [hk]; exact hj) ht he hn
theorem en_mapL {α : Type} {xs : List α} {enc : α → D} {wi : TI} {j : Nat} {vs : List Nat} {src : Cs} {v : α → D} (hi : EvI K wi ρ cs src (xs.map enc)) (hn : xs.length ≤ 100000) (hj : j ∈ vs)
    (he : ∀ a ∈ xs, Ev K te ((wipeD ρ vs).set j (some (enc a))) cs (v a)) : EvN K (tLc wi (gName j) tYes te vs) ρ cs (xs.map v) :=
  en_map (ρ' := fun a => (wipeD ρ vs).set j (some (enc a))) (js := [j]) hi (fun a _ => eg_name) (fun k hk => by rw [List.mem_singleton] at hk; rw [hk]; exact hj) he hn
/-! ### loops with a condition that is kept -/
theorem sv_forF {wi : TI} {g : TG} {src : Cs} {ds : List D} (hi : EvI K wi ρ cs src ds) (R : Nat → Ro) (C : Nat → Cs) (Z : Nat → Prop) (h0 : le (R 0) ρ) (hc0 : cs = C 0) (hz : Z 0) (hk : ∀ i, ∀ c ∈ src, c ∈ C i)
    (hs : ∀ (i : Nat) d, ds[i]? = some d → Z i → ∃ ρ1 js, EvG K g d (R i) ρ1 js ∧ Sv K W bs t ρ1 (C i) { P with nx := fun ρ' cs' => le (R (i + 1)) ρ' ∧ cs' = C (i + 1) ∧ Z (i + 1), ct := fun ρ' cs' => le (R (i + 1)) ρ' ∧ cs' = C (i + 1) ∧ Z (i + 1), bk := P.nx })
    (hd : Z ds.length → ∀ ρ', le (R ds.length) ρ' → P.nx ρ' (C ds.length)) : Sv K W bs (tFor wi g t) ρ cs P := by
  refine sv_for hi (fun i ρ' cs' => le (R i) ρ' ∧ cs' = C i ∧ Z i) ⟨h0, hc0, hz⟩ (fun i ρ' cs' h => by rw [h.2.1]; exact hk i) (fun i d ρ' cs' hd h => ?_) (fun ρ' cs' h => ?_)
  · obtain ⟨ρ1, js, hg, hb⟩ := hs i d hd h.2.2
    refine ⟨ρ1, js, fun G H σ v s e r Q q => hg G H σ v s (e.le h.1) r Q q, ?_⟩
    rw [h.2.1]
    exact hb
  · rw [h.2.1]
    exact hd h.2.2 ρ' h.1
theorem q_forLZ {α : Type} {xs : List α} {enc : α → D} {wi : TI} {j : Nat} {src : Cs} (hi : EvI K wi ρ cs src (xs.map enc)) (R : Nat → Ro) (C : Nat → Cs) (Z : Nat → Prop) (h0 : le (R 0) ρ) (hc0 : cs = C 0) (hz : Z 0) (hk : ∀ i, ∀ c ∈ src, c ∈ C i)
    (hs : ∀ (i : Nat) a, xs[i]? = some a → Z i → Sv K W bs t ((R i).set j (some (enc a))) (C i) { P with nx := fun ρ' cs' => le (R (i + 1)) ρ' ∧ cs' = C (i + 1) ∧ Z (i + 1), ct := fun ρ' cs' => le (R (i + 1)) ρ' ∧ cs' = C (i + 1) ∧ Z (i + 1), bk := fun ρ' cs' => Sv K W bs u ρ' cs' P })
    (hd : Z xs.length → Sv K W bs u (R xs.length) (C xs.length) P) : Sv K W bs (tSeq (tFor wi (gName j) t) u) ρ cs P := by
  refine sv_seq (sv_forF hi R C Z h0 hc0 hz hk (fun i d h hZ => ?_) (fun hZ ρ' hl => ?_))
  · rw [List.getElem?_map] at h
    cases hr : xs[i]? with
    | none => rw [hr] at h; cases h
    | some m =>
      rw [hr] at h
      cases h
      exact ⟨_, _, eg_name, hs i m hr hZ⟩
  · rw [List.length_map] at hZ hl ⊢
    exact (hd hZ).le hl
theorem q_forRZ {ta : TA} {j n : Nat} (hi : EvA K ta ρ cs [.int (n : Int)]) (hn : n ≤ 100000) (R : Nat → Ro) (C : Nat → Cs) (Z : Nat → Prop) (h0 : le (R 0) ρ) (hc0 : cs = C 0) (hz : Z 0)
    (hs : ∀ i, i < n → Z i → Sv K W bs t ((R i).set j (some (.int (i : Int)))) (C i) { P with nx := fun ρ' cs' => le (R (i + 1)) ρ' ∧ cs' = C (i + 1) ∧ Z (i + 1), ct := fun ρ' cs' => le (R (i + 1)) ρ' ∧ cs' = C (i + 1) ∧ Z (i + 1), bk := fun ρ' cs' => Sv K W bs u ρ' cs' P })
    (hd : Z n → Sv K W bs u (R n) (C n) P) : Sv K W bs (tSeq (tFor (iRng1 ta) (gName j) t) u) ρ cs P := by
  refine q_forLZ (xs := List.range n) (enc := fun i : Nat => D.int (i : Int)) (ei_rng1 hi hn) R C Z h0 hc0 hz (fun i c h => by simp at h) (fun i a h hZ => ?_) (fun hZ => ?_)
  · have hi : i < n := by
      have := (List.getElem?_eq_some_iff.mp h).1
      simpa using this
    rw [List.getElem?_range hi] at h
    cases h
    exact hs i hi hZ
  · rw [List.length_range] at hZ ⊢
    exact hd hZ
/-- a search: nothing changes from turn to turn -/
theorem q_search {α : Type} {xs : List α} {enc : α → D} {wi : TI} {j : Nat} {src : Cs} (hi : EvI K wi ρ cs src (xs.map enc)) (Z : Nat → Prop) (hz : Z 0) (hk : ∀ c ∈ src, c ∈ cs) (hl : le (ρ.set j none) ρ)
    (hs : ∀ (i : Nat) a, xs[i]? = some a → Z i → Sv K W bs t ((ρ.set j none).set j (some (enc a))) cs { P with nx := fun ρ' cs' => le (ρ.set j none) ρ' ∧ cs' = cs ∧ Z (i + 1), ct := fun ρ' cs' => le (ρ.set j none) ρ' ∧ cs' = cs ∧ Z (i + 1), bk := fun ρ' cs' => Sv K W bs u ρ' cs' P })
    (hd : Z xs.length → Sv K W bs u (ρ.set j none) cs P) : Sv K W bs (tSeq (tFor wi (gName j) t) u) ρ cs P :=
  q_forLZ hi (fun _ => ρ.set j none) (fun _ => cs) Z hl rfl hz (fun _ => hk) hs hd
theorem le_none : ∀ {ρ : Ro} {i : Nat}, le (ρ.set i none) ρ
  | [], _ => trivial
  | x :: r, 0 => le.refl r
  | none :: r, i + 1 => le_none (ρ := r) (i := i)
  | some x :: r, i + 1 => ⟨rfl, le_none (ρ := r) (i := i)⟩
theorem ev_cty {n : String} : Ev K (tC (.ty n)) ρ cs (.any (.ty n)) := ev_c
theorem ev_cref {a : Addr} : Ev K (tC (.ref a)) ρ cs (.any (.ref a)) := ev_c
/-! ### lists and tuples alike -/
/-- a list (true) or a tuple -/
def sq (b : Bool) (xs : List D) : D := if b then .lst xs else .tup xs
theorem ei_sq {tl : TE} {b : Bool} {ds : List D} (h : Ev K tl ρ cs (sq b ds)) : EvI K (iSeq K tl) ρ cs [] ds := by
  cases b with
  | true => exact ei_seqL h
  | false => exact ei_seqT h
theorem opd_inSq {n : Nat} {b : Bool} {ys : List D} (hn : n < 64) (hx : ok n x = true) (hy : okL n ys = true) : OpD K (uIn K) cs x (sq b ys) (.bl (inD x ys)) := by
  cases b with
  | true => exact opd_inL hn hx hy
  | false => exact opd_inT hn hx hy
theorem cd_lenSq {b : Bool} {ds : List D} : CallD K (uLen K) cs [sq b ds] (.int ds.length) := by
  cases b with
  | true => exact cd_lenL
  | false => exact cd_lenT
end
end Lv

namespace Lv
open PySem L2
open Evl (Ex)
section
variable {K : PySem.W.Frag} {G G0 G1 G2 H H0 H1 H2 H3 G3 : Hp} {ρ ρ1 : Ro} {cs : Cs} {ta tb te tx : TE} {tt tt1 : TT} {d d' e x y z : D} {W : WX} {bs : List Addr} {P : Po} {t u v : TS}
/-! ### two clauses -/
def LcJ (K : PySem.W.Frag) (G1 H1 Gf : Hp) (Dl : Addr) (ds : List D) (Hc : Hp) : Prop := ∃ Gc us, Nx G1 H1 Gc Hc ∧ Ex Gf Gc ∧ Gc Dl = none ∧ Hc Dl = some (.lst us) ∧ RepL K Gc us ds
theorem lcJ_turn {Gf Hc : Hp} {Dl : Addr} {ds : List D} {b : Bool} {v : D} {J : It} {src : Cs} {its0 : List D} {i : Nat} {σ : L2.St} {g : TG} {vs js : List Nat} {ρ1 : Ro} {Nxt : List D → Hp → Prop} (w1 : Wl K G1 H1 cs) (e1 : Env K Gf (wipe σ vs) (wipeD ρ vs)) (hDl : H1 Dl = none)
    (its : Its K J Gf src its0) (hsrc : ∀ c ∈ src, c ∈ cs) (hi : its0[i]? = some d) (inv : LcJ K G1 H1 Gf Dl ds Hc) (hg : EvG K g d (wipeD ρ vs) ρ1 js) (hj : ∀ j ∈ js, j ∈ vs)
    (ht : EvT K tt ρ1 cs b) (he : b = true → Ev K te ρ1 cs v) (hl : ds.length < 100000)
    (hn1 : b = true → ∀ Hn, LcJ K G1 H1 Gf Dl (ds ++ [v]) Hn → Nxt (ds ++ [v]) Hn) (hn2 : b = false → ∀ Hn, LcJ K G1 H1 Gf Dl ds Hn → Nxt ds Hn) :
    J.go i Hc ∧ ∀ x H', J.yld i Hc x H' → g x (wipe σ vs) H' fun σ2 H2 => wipe σ2 vs = wipe σ vs ∧ tt σ2 H2 fun b' H3 =>
      if b' = true then te σ2 H3 fun y H4 => ∃ acc, H4 Dl = some (.lst acc) ∧ acc.length < sizeLine ∧ Nxt (ds ++ [v]) (upd H4 Dl (.lst (acc ++ [y]))) else Nxt ds H3 := by
  obtain ⟨Gc, us, n, fx, gD, hD, rl⟩ := inv
  have wc := w1.step n
  obtain ⟨go, yl⟩ := its.go i d Gc Hc cs hi fx wc hsrc
  refine ⟨go, fun x H' hy => ?_⟩
  obtain ⟨G4, n4, rx⟩ := yl x H' hy
  refine hg G4 H' (wipe σ vs) x n4.s ((e1.mono fx).mono n4.g) rx _ fun σ2 e2 s2 => ⟨wipe_eq s2 hj, ?_⟩
  have w4 := wc.step n4
  refine ht G4 H' σ2 w4 e2 _ fun G5 H5 n5 => ?_
  have gD5 : G5 Dl = none := (n4.trans n5).keepN hD gD
  have hD5 : H5 Dl = some (.lst us) := (n4.trans n5).h _ _ hD
  cases b with
  | false => exact hn2 rfl H5 ⟨G5, us, (n.trans n4).trans n5, (fx.trans n4.g).trans n5.g, gD5, hD5, rl.mono (n4.trans n5).g⟩
  | true =>
    refine he rfl G5 H5 σ2 (w4.step n5) (e2.mono n5.g) _ fun y G6 H6 n6 ry => ?_
    have gD6 : G6 Dl = none := n6.keepN hD5 gD5
    refine ⟨us, n6.h _ _ hD5, by rw [rl.length]; exact Evl.sz_lt hl, hn1 rfl _ ⟨G6, us ++ [y], ((((n.trans n4).trans n5).trans n6).mutate hDl gD6), ((fx.trans n4.g).trans n5.g).trans n6.g, gD6, upd_same, ?_⟩⟩
    exact (rl.mono ((n4.trans n5).trans n6).g).append (.one ry)
theorem en_lc2 {α β : Type} {xs : List α} {enc : α → D} {ys : α → List β} {enc1 : β → D} {wi wi1 : TI} {g g1 : TG} {vs vs1 js js1 : List Nat} {src src1 : Cs} {f : α → Bool} {f1 : α → β → Bool} {v : α → β → D} {ρ1 : α → Ro} {ρ2 : α → β → Ro}
    (hi : EvI K wi ρ cs src (xs.map enc)) (hg : ∀ a ∈ xs, EvG K g (enc a) (wipeD ρ vs) (ρ1 a) js) (hj : ∀ j ∈ js, j ∈ vs) (ht : ∀ a ∈ xs, EvT K tt (ρ1 a) cs (f a))
    (hi1 : ∀ a ∈ xs, f a = true → EvI K wi1 (ρ1 a) cs src1 ((ys a).map enc1)) (hg1 : ∀ a ∈ xs, f a = true → ∀ b ∈ ys a, EvG K g1 (enc1 b) (wipeD (ρ1 a) vs1) (ρ2 a b) js1) (hj1 : ∀ j ∈ js1, j ∈ vs1)
    (ht1 : ∀ a ∈ xs, f a = true → ∀ b ∈ ys a, EvT K tt1 (ρ2 a b) cs (f1 a b)) (he : ∀ a ∈ xs, f a = true → ∀ b ∈ ys a, f1 a b = true → Ev K te (ρ2 a b) cs (v a b)) (hl : (xs.flatMap ys).length ≤ 100000) :
    EvN K (tLc2 wi g tt wi1 g1 tt1 te vs vs1) ρ cs ((xs.filter f).flatMap fun a => ((ys a).filter (f1 a)).map (v a)) := fun G H σ w e Q q =>
  hi G H σ w e _ fun J G1 H1 n1 hsrc its Dl hDl => by
    have w1 := w.step n1
    have e1 : Env K G1 (wipe σ vs) (wipeD ρ vs) := (e.mono n1.g).wipe vs
    let upto : Nat → List D := fun i => ((xs.take i).filter f).flatMap fun a => ((ys a).filter (f1 a)).map (v a)
    have hup : ∀ i, (upto i).length ≤ ((xs.take i).flatMap ys).length := fun i => by
      show (((xs.take i).filter f).flatMap fun a => ((ys a).filter (f1 a)).map (v a)).length ≤ _
      generalize xs.take i = zs
      induction zs with
      | nil => simp
      | cons z zs ih =>
        rw [List.flatMap_cons, List.length_append]
        have h1 := List.length_filter_le (f1 z) (ys z)
        by_cases hz : f z = true
        · rw [List.filter_cons_of_pos hz, List.flatMap_cons, List.length_append, List.length_map]
          omega
        · rw [List.filter_cons_of_neg hz]
          omega
    refine ⟨fun i m Hc => m = xs.length - i ∧ i ≤ xs.length ∧ LcJ K G1 H1 G1 Dl (upto i) Hc, ⟨xs.length, rfl, Nat.zero_le _, G1, [], Nx.newc w1.sub hDl, Ex.refl _, Evl.fresh_back w1.sub hDl, upd_same, .nil⟩, fun i m Hc hW => ?_⟩
    obtain ⟨rfl, hle, inv⟩ := hW
    by_cases hlt : i < xs.length
    · have hmem : xs[i] ∈ xs := List.getElem_mem hlt
      have hat : (xs.map enc)[i]? = some (enc xs[i]) := by rw [List.getElem?_map, List.getElem?_eq_getElem hlt]; rfl
      have tk : xs.take (i + 1) = xs.take i ++ [xs[i]] := by rw [List.take_add_one, List.getElem?_eq_getElem hlt]; rfl
      have hsum : (upto i).length + (ys xs[i]).length ≤ 100000 := by
        have h1 := hup i
        have h2 : xs.flatMap ys = (xs.take i).flatMap ys ++ (ys xs[i] ++ (xs.drop (i + 1)).flatMap ys) := by
          rw [← List.flatMap_cons, ← List.flatMap_append]
          congr 1
          rw [show xs[i] :: xs.drop (i + 1) = xs.drop i from (List.drop_eq_getElem_cons hlt).symm, List.take_append_drop]
        rw [h2] at hl
        simp only [List.length_append] at hl
        omega
      have nxt : ∀ Hn Gf, LcJ K G1 H1 Gf Dl (upto (i + 1)) Hn → ∃ m', m' < xs.length - i ∧ m' = xs.length - (i + 1) ∧ i + 1 ≤ xs.length ∧ LcJ K G1 H1 G1 Dl (upto (i + 1)) Hn := fun Hn Gf h => by
        obtain ⟨Gc, us, n, fx, gD, hD, rl⟩ := h
        exact ⟨xs.length - (i + 1), by omega, rfl, by omega, Gc, us, n, n.g, gD, hD, rl⟩
      obtain ⟨Gc, us, n, fx, gD, hD, rl⟩ := inv
      have wc := w1.step n
      obtain ⟨go, yl⟩ := its.go i _ Gc Hc cs hat fx wc hsrc
      refine .inr ⟨go, fun Hn => ∃ Gf, LcJ K G1 H1 Gf Dl (upto (i + 1)) Hn, fun Hn h => by
        obtain ⟨Gf, h⟩ := h
        exact nxt Hn Gf h, fun x H' hy => ?_⟩
      obtain ⟨G4, n4, rx⟩ := yl x H' hy
      refine hg _ hmem G4 H' (wipe σ vs) x n4.s ((e1.mono fx).mono n4.g) rx _ fun σ2 e2 s2 => ⟨wipe_eq s2 hj, ?_⟩
      have w4 := wc.step n4
      refine ht _ hmem G4 H' σ2 w4 e2 _ fun G5 H5 n5 => ?_
      have gD5 : G5 Dl = none := (n4.trans n5).keepN hD gD
      have hD5 : H5 Dl = some (.lst us) := (n4.trans n5).h _ _ hD
      cases hf : f xs[i] with
      | false =>
        have eu : upto (i + 1) = upto i := by
          show ((xs.take (i + 1)).filter f).flatMap _ = _
          rw [tk, List.filter_append, List.filter_cons_of_neg (by rw [hf]; decide), List.filter_nil, List.append_nil]
        rw [eu]
        exact ⟨G1, G5, us, (n.trans n4).trans n5, (fx.trans n4.g).trans n5.g, gD5, hD5, rl.mono (n4.trans n5).g⟩
      | true =>
        have eu : upto (i + 1) = upto i ++ ((ys xs[i]).filter (f1 xs[i])).map (v xs[i]) := by
          show ((xs.take (i + 1)).filter f).flatMap _ = _
          rw [tk, List.filter_append, List.filter_cons_of_pos hf, List.filter_nil, List.flatMap_append]
          simp only [List.flatMap_cons, List.flatMap_nil, List.append_nil]
          rfl
        show wi1 σ2 H5 _
        refine hi1 _ hmem hf G5 H5 σ2 (w4.step n5) (e2.mono n5.g) _ fun J1 G6 H6 n6 hsrc1 its1 => ?_
        have n16 : Nx G1 H1 G6 H6 := ((n.trans n4).trans n5).trans n6
        have e6 : Env K G6 (wipe σ2 vs1) (wipeD (ρ1 xs[i]) vs1) := ((e2.mono n5.g).mono n6.g).wipe vs1
        let inn : Nat → List D := fun j => upto i ++ (((ys xs[i]).take j).filter (f1 xs[i])).map (v xs[i])
        refine ⟨fun j k Hd => k = (ys xs[i]).length - j ∧ j ≤ (ys xs[i]).length ∧ LcJ K G1 H1 G6 Dl (inn j) Hd, ⟨(ys xs[i]).length, rfl, Nat.zero_le _, G6, us, n16, Ex.refl _, n6.keepN hD5 gD5, n6.h _ _ hD5, ?_⟩, fun j k Hd hWd => ?_⟩
        · have e0 : inn 0 = upto i := by
            show upto i ++ _ = _
            simp
          rw [e0]
          exact rl.mono ((n4.trans n5).trans n6).g
        · obtain ⟨rfl, hjl, invd⟩ := hWd
          by_cases hjt : j < (ys xs[i]).length
          · have hm1 : (ys xs[i])[j] ∈ ys xs[i] := List.getElem_mem hjt
            have hat1 : ((ys xs[i]).map enc1)[j]? = some (enc1 (ys xs[i])[j]) := by rw [List.getElem?_map, List.getElem?_eq_getElem hjt]; rfl
            have tk1 : (ys xs[i]).take (j + 1) = (ys xs[i]).take j ++ [(ys xs[i])[j]] := by rw [List.take_add_one, List.getElem?_eq_getElem hjt]; rfl
            have hln : (inn j).length < 100000 := by
              show (upto i ++ _).length < _
              rw [List.length_append, List.length_map]
              have := List.length_filter_le (f1 xs[i]) ((ys xs[i]).take j)
              rw [List.length_take] at this
              omega
            have key := lcJ_turn (Nxt := fun ds Hn => LcJ K G1 H1 G6 Dl (inn (j + 1)) Hn) w1 e6 hDl its1 hsrc1 hat1 invd (hg1 _ hmem hf _ hm1) hj1 (ht1 _ hmem hf _ hm1) (he _ hmem hf _ hm1) hln
              (fun hb Hn h => by
                have e2 : inn (j + 1) = inn j ++ [v xs[i] (ys xs[i])[j]] := by
                  show upto i ++ _ = (upto i ++ _) ++ _
                  rw [tk1, List.filter_append, List.filter_cons_of_pos hb, List.filter_nil, List.map_append, List.append_assoc]
                  rfl
                rw [e2]
                exact h)
              (fun hb Hn h => by
                have e2 : inn (j + 1) = inn j := by
                  show upto i ++ _ = upto i ++ _
                  rw [tk1, List.filter_append, List.filter_cons_of_neg (by rw [hb]; decide), List.filter_nil, List.append_nil]
                rw [e2]
                exact h)
            exact .inr ⟨key.1, fun Hn => LcJ K G1 H1 G6 Dl (inn (j + 1)) Hn, fun Hn h => ⟨(ys xs[i]).length - (j + 1), by omega, rfl, by omega, h⟩, key.2⟩
          · obtain ⟨Gd, us2, nd, fd, gDd, hDd, rld⟩ := invd
            refine .inl ⟨its1.stop j Gd Hd cs (by rw [List.length_map]; omega) fd (w1.step nd) hsrc1, G6, ?_⟩
            have e3 : inn j = upto (i + 1) := by
              rw [eu]
              show upto i ++ _ = _
              rw [List.take_of_length_le (by omega)]
            rw [← e3]
            exact ⟨Gd, us2, nd, fd, gDd, hDd, rld⟩
    · obtain ⟨Gc, us, n, fx, gD, hD, rl⟩ := inv
      refine .inl ⟨its.stop i Gc Hc cs (by rw [List.length_map]; omega) n.g (w1.step n) hsrc, ?_⟩
      have e3 : upto i = (xs.filter f).flatMap fun a => ((ys a).filter (f1 a)).map (v a) := by
        show ((xs.take i).filter f).flatMap _ = _
        rw [List.take_of_length_le (by omega)]
      rw [e3] at rl
      exact q Dl us Gc Hc (n1.trans n) (Evl.fresh_back n1.h hDl) gD hD rl
/-- both clauses without a test, targets names -/
theorem en_flat {α β : Type} {xs : List α} {enc : α → D} {ys : α → List β} {enc1 : β → D} {wi wi1 : TI} {j j1 : Nat} {vs vs1 : List Nat} {src src1 : Cs} {v : α → β → D}
    (hi : EvI K wi ρ cs src (xs.map enc)) (hj : j ∈ vs) (hj1 : j1 ∈ vs1) (hi1 : ∀ a ∈ xs, EvI K wi1 ((wipeD ρ vs).set j (some (enc a))) cs src1 ((ys a).map enc1))
    (he : ∀ a ∈ xs, ∀ b ∈ ys a, Ev K te ((wipeD ((wipeD ρ vs).set j (some (enc a))) vs1).set j1 (some (enc1 b))) cs (v a b)) (hl : (xs.flatMap ys).length ≤ 100000) :
    EvN K (tLc2 wi (gName j) tYes wi1 (gName j1) tYes te vs vs1) ρ cs (xs.flatMap fun a => (ys a).map (v a)) := by
  have h := en_lc2 (f := fun _ => true) (f1 := fun _ _ => true) (v := v) (ρ1 := fun a => (wipeD ρ vs).set j (some (enc a))) (ρ2 := fun a b => (wipeD ((wipeD ρ vs).set j (some (enc a))) vs1).set j1 (some (enc1 b))) (js := [j]) (js1 := [j1]) hi (fun _ _ => eg_name)
    (fun k hk => by rw [List.mem_singleton] at hk; rw [hk]; exact hj) (fun _ _ => et_yes) (fun a ha _ => hi1 a ha) (fun _ _ _ _ _ => eg_name) (fun k hk => by rw [List.mem_singleton] at hk; rw [hk]; exact hj1) (fun _ _ _ _ _ => et_yes) (fun a ha _ b hb _ => he a ha b hb) hl
  have e : (xs.filter fun _ => true) = xs := List.filter_eq_self.mpr fun _ _ => rfl
  rw [e] at h
  refine h.of ?_
  congr 1
  funext a
  rw [List.filter_eq_self.mpr fun _ _ => rfl]
/-! ### zip of two tuples -/
theorem ei_zipT {ta : TA} {xs ys : List D} (h : EvA K ta ρ cs [.tup xs, .tup ys]) : EvI K (RZ.iZipA K ta) ρ cs [] ((xs.zip ys).map fun p => .tup [p.1, p.2]) := fun G H σ w e R q => h G H σ w e _ fun vs G2 H2 n r => by
  cases r with
  | cons r0 r1 =>
    cases r1 with
    | cons r2 r3 =>
      cases r3
      cases r0 with
      | @tup a us _ ha ra =>
        cases r2 with
        | @tup b ws _ hb rb =>
          refine ⟨a, b, us, ws, rfl, .inr ⟨Evl.ex_t n.s ha.sq, Evl.ex_t n.s hb.sq, q _ G2 H2 n no_src ⟨fun i d G3 H3 cs3 hd x w3 _ => ?_, fun i G3 H3 cs3 hi x w3 _ => ?_⟩⟩⟩
          · have hA : SqT K H3 a us := Evl.ex_t (x.trans w3.sub) ha.sq
            have hB : SqT K H3 b ws := Evl.ex_t (x.trans w3.sub) hb.sq
            rw [List.getElem?_map] at hd
            cases hz : (xs.zip ys)[i]? with
            | none => rw [hz] at hd; cases hd
            | some p =>
              rw [hz] at hd
              cases hd
              obtain ⟨h1, h2⟩ := List.getElem?_zip_eq_some.mp hz
              obtain ⟨v1, hv1, rv1⟩ := ra.get h1
              obtain ⟨v2, hv2, rv2⟩ := rb.get h2
              refine ⟨⟨us, ws, v1, v2, hA, hB, hv1, hv2⟩, fun y H' hy => ?_⟩
              obtain ⟨T, x1, x2, rfl, hT, rfl, f1, f2⟩ := hy
              cases (f1 _ hA).symm.trans hv1
              cases (f2 _ hB).symm.trans hv2
              exact ⟨_, Nx.new w3.sub hT, .tup (.inl upd_same) (.cons ((rv1.mono x).mono (Ex.new (Evl.fresh_back w3.sub hT))) (.cons ((rv2.mono x).mono (Ex.new (Evl.fresh_back w3.sub hT))) .nil))⟩
          · rw [List.length_map, List.length_zip] at hi
            refine ⟨us, ws, Evl.ex_t (x.trans w3.sub) ha.sq, Evl.ex_t (x.trans w3.sub) hb.sq, ?_⟩
            rw [ra.length, rb.length]
            omega
/-- a, b in a comprehension's or loop's target -/
theorem eg_pair {i j : Nat} {a b : D} : EvG K (gTup K 2 (gCons (gName i) (gCons (gName j) gNil))) (.tup [a, b]) ρ ((ρ.set i (some a)).set j (some b)) [i, j] := eg_tup (egs_cons eg_name (egs_cons eg_name egs_nil)) rfl
end
theorem passNA {X : Cx} {σ : L2.St} : PassesAt (L2N.CX X.prog X.w) X σ E0 := fun pins H s e s' I c => passN pins σ H s e s' I c
end Lv

namespace Lv
open PySem L2
/-! ### the same rules with the written part named -/
section
variable {X : Cx} (K : PySem.W.Frag)
theorem op_addK (h : X.K = K := by rfl) : OpR X (binaryOp .Add) (uAdd K) := h ▸ op_uAdd
theorem op_eqK (hu : X.A.units + 64 < cLine) (h : X.K = K := by rfl) : OpR X (compareOp .Eq) (uEq K) := h ▸ op_uEq hu
theorem op_neK (hu : X.A.units + 64 < cLine) (h : X.K = K := by rfl) : OpR X (compareOp .NotEq) (uNe K) := h ▸ op_uNe hu
theorem op_inK (hu : X.A.units + 65 < cLine) (h : X.K = K := by rfl) : OpR X (compareOp .In) (uIn K) := h ▸ op_uIn hu
theorem op_ninK (hu : X.A.units + 65 < cLine) (h : X.K = K := by rfl) : OpR X (compareOp .NotIn) (uNin K) := h ▸ op_uNin hu
theorem cr_lenK (h : X.K = K := by rfl) : CallR X (.builtin "len") (uLen K) := h ▸ cr_len
theorem cr_listK (h : X.K = K := by rfl) : CallR X (.type "list") (uList K) := h ▸ cr_list
theorem cr_tupleK (h : X.K = K := by rfl) : CallR X (.type "tuple") (uTuple K) := h ▸ cr_tuple
theorem cr_isiK (h : X.K = K := by rfl) : CallR X (.builtin "isinstance") (rIsi K) := h ▸ call_isi
theorem cr_anyK (hc : X.calm = true) (h : X.K = K := by rfl) : CallR X (.builtin "any") (rAny K) := h ▸ cr_any hc
theorem cr_allK (hc : X.calm = true) (h : X.K = K := by rfl) : CallR X (.builtin "all") (rAll K) := h ▸ cr_all hc
theorem ix_seqK (h : X.K = K := by rfl) : IxR X (rIx K) := h ▸ ix_seq
theorem sl_uK (h : X.K = K := by rfl) : SlR X (uSl K) := h ▸ sl_u
theorem pe_fldK {e : Expr} {f : Str} {ta : TE} {pos : Pos} (he : PE X e ta) (hb : attributeBase e f X.env (eval e X.env) = eval e X.env) (h : X.K = K := by rfl) : PE X (.Attribute e f pos) (tFld K ta f) := h ▸ pe_fld he hb
theorem pi_seqK {tg e : Expr} {te : TE} (he : PE X e te) (h : X.K = K := by rfl) : PI X tg e (iSeq K te) := by
  subst h
  exact (pi_list he).or (pi_tup he)
theorem pt_truK {a : Expr} {ta : TE} (ha : PE X a ta) (he : ∀ whole, isTrue a X.env whole = (do let v ← whole; standAt a.pos; holding [v] (truthy v)) := by intro _; rfl) (h : X.K = K := by rfl) : PT X a (uTru K ta) := h ▸ pt_tru ha he
theorem pg_tupK {es : List Expr} {ts : TGs} {k n : Nat} {pos : Pos} (hc : X.calm = true) (hs : PGs X es ts) (hn : (assignEach es X.env).length = n := by rfl) (hst : (assignEach es X.env).findIdx? (·.1) = none := by rfl) (h : X.K = K := by rfl) : PG X (.Tuple es k pos) (gTup K n ts) := by
  subst h
  exact pg_tup hc hs hn hst
theorem pi_zipK {e e2 : Expr} {ta : TA} {p pos tpos : Pos} {elts : List Expr} {kk : Nat} (hg : Gl X "zip") (hm : X.mg "zip" = none) (ha : PA X [e, e2] ta)
    (hs : starEach [e, e2] X.env = (false, eval e X.env) :: starEach [e2] X.env := by rfl) (hpl : (backTo pos (starEach [e2] X.env)).any (·.1) = false := by rfl) (h : X.K = K := by rfl) :
    PI X (.Tuple elts kk tpos) (.Call (.Name "zip" p) [e, e2] [] pos) (RZ.iZipA K ta) := h ▸ RZ.pi_zipA hg hm ha hs hpl
end
end Lv

namespace Lv
open PySem L2
/-! ### the caught suite, with its reading named -/
def tTryN (K : PySem.W.Frag) (c : Value) (i : Nat) (tb : WX → TS) (ts : Addr → Value → Option Addr → TS) (W : WX) : TS := fun D σ H => tb (wAs K c i ts W D) D σ H
section
variable {X : Cx} (K : PySem.W.Frag) {x n : Str} {c : Value} {i : Nat} {body suite : List Stmt} {b₀ : Stmt} {np pos pos' : Pos} {tb : WX → TS} {ts : Addr → Value → Option Addr → TS} {Wout : WX}
theorem ps_tryN (hs : X.stack = X.env :: X.outer) (hf : X.env.frame = some X.env.locals) (hN : X.N.Nodup) (hi : X.N[i]? = some n) (hln : X.env.kindOf n = some .local) (hc : Names X x c) (tk : L2N.Takes X Wout)
    (hb : ∀ (W : WX) (pn : List (Addr × Obj)) (xe : Value → Shared → Prop), L2N.Takes (X.tr pn xe) W → PassesOwn (model X.prog X.w) X.A X.env xe → PSs (X.tr pn xe) body (tb W))
    (hsu : ∀ (a : Addr) (oe : Obj) (cls : Value) (d : Option Addr) (pn : List (Addr × Obj)), L2N.Zn cls d oe → (∃ vs, oe.data = .fields vs) → PSs (X.suite a ((a, oe) :: pn)) (b₀ :: suite) (ts a cls d)) (hK : X.K = K := by rfl) :
    PS X (.Try body [.ExceptHandler (some (.Name x np)) (some n) (b₀ :: suite) pos'] [] [] pos) (tTryN K c i tb ts Wout) := by
  subst hK
  exact L2N.ps_try_as hs hf hN hi hln hc tk hb hsu
end
section
variable {K : PySem.W.Frag} {W : WX} {bs : List Addr} {ρ : Ro} {cs : List (Addr × D)} {P : Po}
theorem sv_tryN {tb : WX → TS} {ts : Addr → Value → Option Addr → TS} {c : Value} {i : Nat}
    (h : ∀ W', Sv K W' bs (tb W') ρ cs { P with ex := fun ρ' cs' cls fs => ∃ b, PySem.W.exmOne K cls c = some b ∧
      (b = true → ∀ a dd, ddOk dd fs → (∀ p, dd = some p → p ∉ bs ∧ ∀ c ∈ cs', c.1 ≠ p) → Sv K W bs (ts a cls dd) (ρ'.set i (some (.any (.ref a)))) (exC dd fs cs') { nx := fun ρ2 cs2 => P.nx (ρ2.set i none) cs2, rt := P.rt, bk := fun ρ2 cs2 => P.bk (ρ2.set i none) cs2, ct := fun ρ2 cs2 => P.ct (ρ2.set i none) cs2, ex := P.ex }) ∧ (b = false → P.ex ρ' cs' cls fs) }) :
    Sv K W bs (tTryN K c i tb ts W) ρ cs P := sv_try h
end
end Lv

namespace Lv
open PySem L2
open Evl (Ex)
/-! ### dicts -/
section
variable {κ : Type} [DecidableEq κ]
def valD (es : List (κ × D)) (k : κ) : Option D := (es.find? fun e => decide (e.1 = k)).map (·.2)
def putE (es : List (κ × D)) (k : κ) (d : D) : List (κ × D) := if (es.any fun e => decide (e.1 = k)) = true then es.map (fun e => if e.1 = k then (e.1, d) else e) else es ++ [(k, d)]
def KRep (K : PySem.W.Frag) (G : Hp) (vs : List (κ × V)) (es : List (κ × D)) : Prop := vs.map Prod.fst = es.map Prod.fst ∧ RepL K G (vs.map Prod.snd) (es.map Prod.snd)
variable {K : PySem.W.Frag} {G : Hp}
theorem KRep.cases {vs : List (κ × V)} {es : List (κ × D)} (h : KRep K G vs es) : (vs = [] ∧ es = []) ∨ ∃ k v d vs' es', vs = (k, v) :: vs' ∧ es = (k, d) :: es' ∧ Rep K G v d ∧ KRep K G vs' es' := by
  obtain ⟨h1, h2⟩ := h
  cases vs with
  | nil =>
    cases es with
    | nil => exact .inl ⟨rfl, rfl⟩
    | cons e es => cases h1
  | cons p vs =>
    cases es with
    | nil => cases h1
    | cons e es =>
      obtain ⟨k, v⟩ := p
      obtain ⟨k2, d⟩ := e
      rw [List.map_cons, List.map_cons, List.cons.injEq] at h1
      obtain ⟨h3, h4⟩ := h1
      cases h3
      cases h2 with
      | cons a b => exact .inr ⟨k, v, d, vs, es, rfl, rfl, a, h4, b⟩
theorem KRep.cons {vs : List (κ × V)} {es : List (κ × D)} {k : κ} {v : V} {d : D} (hv : Rep K G v d) (h : KRep K G vs es) : KRep K G ((k, v) :: vs) ((k, d) :: es) := ⟨by rw [List.map_cons, List.map_cons, h.1], .cons hv h.2⟩
theorem KRep.nil : KRep K G ([] : List (κ × V)) ([] : List (κ × D)) := ⟨rfl, .nil⟩
theorem KRep.any {k : κ} : ∀ {vs : List (κ × V)} {es : List (κ × D)}, KRep K G vs es → (vs.any fun e => decide (e.1 = k)) = es.any fun e => decide (e.1 = k)
  | vs, es, h => by
    have e1 : (vs.any fun e => decide (e.1 = k)) = (vs.map Prod.fst).any fun x => decide (x = k) := by rw [List.any_map]; rfl
    have e2 : (es.any fun e => decide (e.1 = k)) = (es.map Prod.fst).any fun x => decide (x = k) := by rw [List.any_map]; rfl
    rw [e1, e2, h.1]
theorem KRep.val {k : κ} : ∀ {vs : List (κ × V)} {es : List (κ × D)}, KRep K G vs es → (valD es k = none ∧ valV vs k = none) ∨ ∃ v d, valD es k = some d ∧ valV vs k = some v ∧ Rep K G v d
  | vs, es, h => by
    induction vs generalizing es with
    | nil =>
      rcases h.cases with ⟨_, rfl⟩ | ⟨_, _, _, _, _, e, _⟩
      · exact .inl ⟨rfl, rfl⟩
      · cases e
    | cons p vs ih =>
      rcases h.cases with ⟨e, _⟩ | ⟨k1, v, d, vs', es', e, rfl, hr, h2⟩
      · cases e
      · cases e
        by_cases hk : k1 = k
        · exact .inr ⟨v, d, by simp [valD, List.find?_cons, hk], valV_pos (p := (k1, v)) hk, hr⟩
        · have e1 : valD ((k1, d) :: es') k = valD es' k := by simp [valD, List.find?_cons, hk]
          rw [e1, valV_neg (p := (k1, v)) hk]
          exact ih _ h2
theorem KRep.set {k : κ} {v : V} {d : D} (hv : Rep K G v d) : ∀ {vs : List (κ × V)} {es : List (κ × D)}, KRep K G vs es → KRep K G (vs.map fun e => if e.1 = k then (e.1, v) else e) (es.map fun e => if e.1 = k then (e.1, d) else e)
  | vs, es, h => by
    induction vs generalizing es with
    | nil =>
      rcases h.cases with ⟨_, rfl⟩ | ⟨_, _, _, _, _, e, _⟩
      · exact .nil
      · cases e
    | cons p vs ih =>
      rcases h.cases with ⟨e, _⟩ | ⟨k1, v1, d1, vs', es', e, rfl, hr, h2⟩
      · cases e
      · cases e
        rw [List.map_cons, List.map_cons]
        by_cases hk : k1 = k
        · simp only [hk, if_true]
          exact .cons hv (ih _ h2)
        · simp only [hk, if_false]
          exact .cons hr (ih _ h2)
theorem KRep.append {vs us : List (κ × V)} {es fs : List (κ × D)} (h : KRep K G vs es) (h2 : KRep K G us fs) : KRep K G (vs ++ us) (es ++ fs) := ⟨by rw [List.map_append, List.map_append, h.1, h2.1], by rw [List.map_append, List.map_append]; exact h.2.append h2.2⟩
theorem KRep.put {k : κ} {v : V} {d : D} {vs : List (κ × V)} {es : List (κ × D)} (h : KRep K G vs es) (hv : Rep K G v d) : KRep K G (putK vs k v) (putE es k d) := by
  unfold putK putE
  rw [h.any]
  by_cases hk : (es.any fun e => decide (e.1 = k)) = true
  · rw [if_pos hk, if_pos hk]
    exact h.set hv
  · rw [if_neg hk, if_neg hk]
    exact h.append (.cons hv .nil)
theorem KRep.length {vs : List (κ × V)} {es : List (κ × D)} (h : KRep K G vs es) : vs.length = es.length := by
  have := congrArg List.length h.1
  rwa [List.length_map, List.length_map] at this
theorem putE_len {es : List (κ × D)} {k : κ} {d : D} : (putE es k d).length ≤ es.length + 1 := by
  unfold putE
  split <;> simp
theorem valD_put {es : List (κ × D)} {k j : κ} {d : D} : valD (putE es k d) j = if j = k then some d else valD es j := by
  unfold putE valD
  by_cases hk : (es.any fun e => decide (e.1 = k)) = true
  · rw [if_pos hk]
    induction es with
    | nil => cases hk
    | cons e es ih =>
      rw [List.map_cons]
      by_cases he : e.1 = k
      · by_cases hj : j = k
        · subst hj
          simp [List.find?_cons, he]
        · have hj2 : ¬ k = j := fun z => hj z.symm
          have h3 : ¬ e.1 = j := fun z => hj (z.symm.trans he)
          rw [if_neg hj]
          simp only [he, if_true, List.find?_cons, decide_eq_false hj2]
          clear ih hk
          induction es with
          | nil => rfl
          | cons f es ih2 =>
            rw [List.map_cons]
            by_cases hf : f.1 = k
            · simp only [hf, if_true, List.find?_cons, decide_eq_false hj2]
              exact ih2
            · simp only [hf, if_false, List.find?_cons]
              by_cases hfj : f.1 = j
              · simp [hfj]
              · simp only [decide_eq_false hfj]
                exact ih2
      · have hk2 : (es.any fun e => decide (e.1 = k)) = true := by simpa [he] using hk
        have ih2 := ih hk2
        simp only [he, if_false, List.find?_cons]
        by_cases hej : e.1 = j
        · have hne : ¬ j = k := fun z => he (hej.trans z)
          simp [hej, hne]
        · simp only [decide_eq_false hej]
          exact ih2
  · rw [if_neg hk, List.find?_append]
    by_cases hj : j = k
    · subst hj
      have : es.find? (fun e => decide (e.1 = j)) = none := by
        rw [List.find?_eq_none]
        intro x hx hxj
        exact hk (List.any_eq_true.mpr ⟨x, hx, hxj⟩)
      rw [this, if_pos rfl]
      simp
    · rw [if_neg hj]
      have hj2 : ¬ k = j := fun z => hj z.symm
      cases es.find? fun e => decide (e.1 = j) <;> simp [hj2]
end
def keyD : L2.Key → D
  | .inl i => .int i
  | .inr s => .str s
section
variable {K : PySem.W.Frag} {G G0 G1 G2 H H0 H1 H2 H3 G3 : Hp} {ρ ρ1 : Ro} {cs : Cs} {ta tb te tx td ty tv : TE} {tt tt1 : TT} {d d' e x y z : D} {W : WX} {bs : List Addr} {P : Po} {t u v : TS}
theorem Rep.key {v : V} {k : L2.Key} (h : Rep K G v (keyD k)) : v = kV k := by
  cases k with
  | inl i => cases h; rfl
  | inr s => cases h; rfl
theorem RepC.dikC {v : V} {es : List (L2.Key × D)} (w : Wl K G H cs) (r : RepC K G cs v (.dik es)) : ∃ a vs, v = .ref a ∧ H a = some (.dK vs) ∧ KRep K G vs es := by
  rcases r with r | ⟨a, rfl, c⟩
  · cases r with
    | dik h k r => exact ⟨_, _, rfl, w.sub _ _ h, k, r⟩
  · obtain ⟨_, vs, e, k, r⟩ := w.cell _ c
    exact ⟨a, vs, rfl, e, k, r⟩
theorem Ev.key {k : L2.Key} (h : Ev K ty ρ cs (keyD k)) (Q : VK) {σ : L2.St} (w : Wl K G H cs) (e : Env K G σ ρ) (q : ∀ G2 H2, Nx G H G2 H2 → Q (kV k) H2) : ty σ H Q := h G H σ w e _ fun v G2 H2 n r => by
  rw [r.key]
  exact q G2 H2 n
theorem ev_din {k : L2.Key} {es : List (L2.Key × D)} (hy : Ev K ty ρ cs (keyD k)) (hd : EvR K td ρ cs (.dik es)) : Ev K (tDIn ty td) ρ cs (.bl (valD es k).isSome) := fun G H σ w e Q q =>
  hy.key _ w e fun G2 H2 n => hd G2 H2 σ (w.step n) (e.mono n.g) _ fun v G3 H3 n3 r => by
    obtain ⟨a, vs, rfl, ha, kr⟩ := r.dikC ((w.step n).step n3)
    refine ⟨a, _, rfl, DGet.k ha, ?_⟩
    rcases kr.val (k := k) with ⟨e1, e2⟩ | ⟨v, d, e1, e2, _⟩
    · rw [e2]
      have := q (.bl false) G3 H3 (n.trans n3)
      rw [e1] at this
      exact this (.bl _)
    · rw [e2]
      have := q (.bl true) G3 H3 (n.trans n3)
      rw [e1] at this
      exact this (.bl _)
theorem ev_dget {k : L2.Key} {es : List (L2.Key × D)} (hd : EvR K td ρ cs (.dik es)) (hy : Ev K ty ρ cs (keyD k)) (hv : valD es k = some d) : Ev K (tDGet td ty) ρ cs d := fun G H σ w e Q q =>
  hd G H σ w e _ fun v G2 H2 n r => hy.key _ (w.step n) (e.mono n.g) fun G3 H3 n3 => by
    obtain ⟨a, vs, rfl, ha, kr⟩ := (r.mono n3).dikC ((w.step n).step n3)
    rcases kr.val (k := k) with ⟨e1, e2⟩ | ⟨v, d2, e1, e2, rv⟩
    · rw [e1] at hv; cases hv
    · rw [e1] at hv
      cases hv
      refine ⟨a, v, rfl, ?_, q v G3 H3 (n.trans n3) rv⟩
      rw [← e2]
      exact DGet.k ha
/-- a new cell d -/
def EvD (K : PySem.W.Frag) (te : TE) (ρ : Ro) (cs : Cs) (d : D) : Prop := ∀ G H σ, Wl K G H cs → Env K G σ ρ → ∀ Q : VK, (∀ p G2 H2, Nx G H G2 H2 → H p = none → G2 p = none → Cell K G2 H2 p d → Q (.ref p) H2) → te σ H Q
theorem ed_newK : EvD K tDNewK ρ cs (.dik []) := fun G H σ w e Q q p hp => q p G _ (Nx.newc w.sub hp) hp (Evl.fresh_back w.sub hp) ⟨[], upd_same, rfl, .nil⟩
theorem ed_newT : EvD K tDNewT ρ cs (.dit []) := fun G H σ w e Q q p hp => q p G _ (Nx.newc w.sub hp) hp (Evl.fresh_back w.sub hp) ⟨[], upd_same, rfl, .nil⟩
theorem Rl.newCellD {p : Addr} (r : Rl K G0 H0 bs G H cs) (hp0 : H0 p = none) (gp : G p = none) (hp : Cell K G H p d) (hc : ∀ c ∈ cs, c.1 ≠ p) : Rl K G0 H0 bs G H ((p, d) :: cs) :=
  ⟨⟨r.wl.sub, fun c h => by
    rcases List.mem_cons.mp h with rfl | h
    · exact ⟨gp, hp⟩
    · exact r.wl.cell c h, by
    rw [List.map_cons, List.nodup_cons]
    refine ⟨fun h => ?_, r.wl.nd⟩
    obtain ⟨c, h1, h2⟩ := List.mem_map.mp h
    exact hc c h1 h2⟩, r.g0, r.h0, r.nw, fun c h => by
    rcases List.mem_cons.mp h with rfl | h
    · exact .inr hp0
    · exact r.cl c h, r.bd, r.b0⟩
theorem sv_setD {i : Nat} (h : EvD K te ρ cs d) (k : ∀ a, a ∉ bs → (∀ c ∈ cs, c.1 ≠ a) → P.nx (ρ.set i (some (.any (.ref a)))) ((a, d) :: cs)) : Sv K W bs (tAsg te (gName i)) ρ cs P := fun G0 H0 G H σ E r e o =>
  h G H σ r.wl e _ fun p G2 H2 n hp gp hc => by
    obtain ⟨a1, a2, a3⟩ := r.none0 hp
    exact o.nx G2 H2 _ _ _ ((r.step n).newCellD a1 gp hc a3) ((e.mono n.g).set i (.any _)) (k p a2 a3)
theorem q_setD {i : Nat} (h : EvD K te ρ cs d) (k : ∀ a, a ∉ bs → (∀ c ∈ cs, c.1 ≠ a) → Sv K W bs u (ρ.set i (some (.any (.ref a)))) ((a, d) :: cs) P) : Sv K W bs (tSeq (tAsg te (gName i)) u) ρ cs P := sv_seq (sv_setD h k)
theorem sv_dput {a : Addr} {k : L2.Key} {es : List (L2.Key × D)} (hc : (a, .dik es) ∈ cs) (ho : Ev K td ρ cs (.any (.ref a))) (hy : Ev K ty ρ cs (keyD k)) (hv : Ev K tv ρ cs d) (hz : es.length < 100000) (kk : P.nx ρ (setC a (.dik (putE es k d)) cs)) :
    Sv K W bs (sDPut td ty tv) ρ cs P := fun G0 H0 G H σ E r e o => hv G H σ r.wl e _ fun v G2 H2 n rv => ho G2 H2 σ (r.step n).wl (e.mono n.g) _ fun x G3 H3 n3 rx => by
  cases rx
  refine hy.key _ ((r.step n).step n3).wl ((e.mono n.g).mono n3.g) fun G4 H4 n4 => ?_
  have r4 := ((r.step n).step n3).step n4
  obtain ⟨_, vs, hvs, kr⟩ := r4.wl.cell _ hc
  have kr : KRep K G4 vs es := kr
  refine ⟨a, _, rfl, DPut.k hvs (by rw [kr.length]; exact Evl.sz_lt hz), ?_⟩
  refine o.nx G4 _ _ _ _ (r4.write (d' := .dik (putE es k d)) hc ⟨_, upd_same, (kr.put ((rv.mono n3.g).mono n4.g)).1, (kr.put ((rv.mono n3.g).mono n4.g)).2⟩) (((e.mono n.g).mono n3.g).mono n4.g) kk
theorem sv_forLZ {α : Type} {xs : List α} {enc : α → D} {wi : TI} {j : Nat} {src : Cs} (hi : EvI K wi ρ cs src (xs.map enc)) (R : Nat → Ro) (C : Nat → Cs) (Z : Nat → Prop) (h0 : le (R 0) ρ) (hc0 : cs = C 0) (hz : Z 0) (hk : ∀ i, ∀ c ∈ src, c ∈ C i)
    (hs : ∀ (i : Nat) a, xs[i]? = some a → Z i → Sv K W bs t ((R i).set j (some (enc a))) (C i) { P with nx := fun ρ' cs' => le (R (i + 1)) ρ' ∧ cs' = C (i + 1) ∧ Z (i + 1), ct := fun ρ' cs' => le (R (i + 1)) ρ' ∧ cs' = C (i + 1) ∧ Z (i + 1), bk := P.nx })
    (hd : Z xs.length → ∀ ρ', le (R xs.length) ρ' → P.nx ρ' (C xs.length)) : Sv K W bs (tFor wi (gName j) t) ρ cs P := by
  refine sv_forF hi R C Z h0 hc0 hz hk (fun i d h hZ => ?_) (fun hZ ρ' hl => ?_)
  · rw [List.getElem?_map] at h
    cases hr : xs[i]? with
    | none => rw [hr] at h; cases h
    | some m =>
      rw [hr] at h
      cases h
      exact ⟨_, [j], eg_name, hs i m hr hZ⟩
  · rw [List.length_map] at hl hZ ⊢
    exact hd hZ ρ' hl
end
theorem u1 {A : Around} {k : Nat} (hr : Room k A) : A.units + 1 < cLine := by have := hr.un; omega
end Lv

namespace Lv
open PySem L2
open Evl (Ex)
/-! ### x in an object, by the class's own method -/
def tOwnIn (C : Addr) (sp : Sp) (E : L2.St → XK) (ta tb : TE) : TE := fun σ H Q => ta σ H fun x H1 => tb σ H1 fun y H2 => ∃ b dx fs, y = .ref b ∧ H2 b = some (.ins C dx fs) ∧ sp [y, x] H2 (fun v H3 => ∃ r, v = .bl r ∧ Q (.bl r) H3) (E σ)
structure Oi (P : Program) (w : World) (K : PySem.W.Frag) (mg : Str → Option Value) (base : Heap) (k : Nat) (C : Addr) (ps : List Str) (sp : Sp) : Prop where
  ex : ∃ f fd, PySem.W.findIn K (.ref C) "__contains__" = some (some (.ref f)) ∧ PySem.W.isFn K (.ref f) = true ∧ FnOk P w K mg base (L2N.CX P w) k f fd ps sp ∧ Binds K fd ps []
section
variable {X : Cx} {ta tb : TE} {C : Addr} {sp : Sp} {j k : Nat} {ps : List Str} {pos : Pos}
theorem pc_ownIn {E : L2.St → XK} {a b : Expr} (O : Oi X.prog X.w X.K X.mg X.base j C ps sp) (hr : Room k X.A) (hx : ∀ σ, PassesAt (L2N.CX X.prog X.w) X σ (E σ)) (ha : PE X a ta) (hb : PE X b tb) (hj : j ≤ k := by decide) : PC X .In a b (tOwnIn C sp E ta tb) := by
  obtain ⟨f, fd, h1, h2, h3, h4⟩ := O.ex
  refine ⟨fun pins s σ H Q I h => ?_⟩
  refine thn (ha.run pins s σ H _ I h) fun v s1 ⟨x, H1, I1, rx, q1⟩ => thn (hb.run pins s1 σ H1 _ I1 q1) fun u s2 ⟨y, H2, I2, ry, b, dx, fs, ey, eb, q⟩ => ?_
  subst ey
  cases ry
  obtain ⟨mB, J, _⟩ := ins_get I2.hok eb
  obtain ⟨od, J, _⟩ := J.look
  obtain ⟨m, hF⟩ := I2.fr
  refine PySem.W.in_K hF I2.ok.mod.kin J h1 h2 ?_
  refine wpAny_mono (run_fnS (E := E) (us := [.ref b, v]) (vs := [.ref b, x]) h3 (hr.mono hj) h4 (hx σ) I2 (.cons rfl (.cons rx .nil)) q) (fun r s' z => ?_) fun _ _ z => z
  obtain ⟨v', H', I', rv, r', rfl, q'⟩ := z
  cases rv
  exact wpAny_truthy_bool ⟨.bl r', H', I', rfl, q'⟩
end
section
variable {K : PySem.W.Frag} {G H : Hp} {ρ : Ro} {cs : Cs} {ta tb : TE} {x : D} {W : WX} {C : Addr} {sp : Sp}
theorem ev_ownIn {E : L2.St → XK} {fs : List (Str × D)} {r : Bool} (h1 : Ev K ta ρ cs x) (h2 : Ev K tb ρ cs (.obj C fs)) (hs : SpD K sp [.obj C fs, x] (.bl r)) : Ev K (tOwnIn C sp E ta tb) ρ cs (.bl r) := fun G H σ w e Q q =>
  h1 G H σ w e _ fun v G2 H2 n rx => h2 G2 H2 σ (w.step n) (e.mono n.g) _ fun u G3 H3 n3 ry => by
    cases ry with
    | obj hg rf =>
      refine ⟨_, _, _, rfl, n3.s _ _ hg, hs G3 H3 _ n3.s (.cons (.obj hg rf) (.cons (rx.mono n3.g) .nil)) _ _ fun v' G4 H4 n4 r4 => ?_⟩
      cases r4
      exact ⟨_, rfl, q _ G4 H4 ((n.trans n3).trans n4) (.bl _)⟩
end
def conB (K : PySem.W.Frag) (C : Addr) : Bool := He.eqO (PySem.W.findIn K (.ref C) "__contains__") (some (some (.ref (He.ma K C "__contains__")))) && PySem.W.isFn K (.ref (He.ma K C "__contains__"))
end Lv

namespace Lv
open PySem L2
open Evl (Ex)
/-! ### list cells handed to a def that only reads them -/
mutual
/-- no list in it -/
def nl : D → Bool
  | .non => true
  | .bl _ => true
  | .int _ => true
  | .str _ => true
  | .tup xs => nlL xs
  | .obj _ fs => nlF fs
  | .any _ => true
  | _ => false
def nlL : List D → Bool
  | [] => true
  | x :: xs => nl x && nlL xs
def nlF : List (Str × D) → Bool
  | [] => true
  | (_, x) :: xs => nl x && nlF xs
end
def lstC (cs : Cs) : Prop := ∀ c ∈ cs, ∃ ds, c.2 = D.lst ds
open Classical in
noncomputable def vw (G H : Hp) (cs : Cs) : Hp := fun b => if ∃ c ∈ cs, c.1 = b then H b else G b
open Classical in
noncomputable def unv (G : Hp) (cs : Cs) : Hp := fun b => if ∃ c ∈ cs, c.1 = b then none else G b
section
variable {K : PySem.W.Frag} {G G0 G1 G2 H H0 H1 H2 H3 G3 : Hp} {ρ ρ1 : Ro} {cs : Cs} {ta tb te tx td ty tv : TE} {d d' e x y z : D} {W : WX} {bs : List Addr} {P : Po} {t u v : TS}
theorem vw_in {b : Addr} (h : ∃ c ∈ cs, c.1 = b) : vw G H cs b = H b := by unfold vw; rw [if_pos h]
theorem vw_out {b : Addr} (h : ¬ ∃ c ∈ cs, c.1 = b) : vw G H cs b = G b := by unfold vw; rw [if_neg h]
theorem unv_in {b : Addr} (h : ∃ c ∈ cs, c.1 = b) : unv G cs b = none := by unfold unv; rw [if_pos h]
theorem unv_out {b : Addr} (h : ¬ ∃ c ∈ cs, c.1 = b) : unv G cs b = G b := by unfold unv; rw [if_neg h]
theorem vw_ex (w : Wl K G H cs) : Ex G (vw G H cs) := fun b o hb => by
  have hn : ¬ ∃ c ∈ cs, c.1 = b := fun ⟨c, hc, e⟩ => by
    have := (w.cell c hc).1
    rw [e, hb] at this
    cases this
  rw [vw_out hn]
  exact hb
theorem vw_sub (w : Wl K G H cs) : Ex (vw G H cs) H := fun b o hb => by
  by_cases h : ∃ c ∈ cs, c.1 = b
  · rw [vw_in h] at hb
    exact hb
  · rw [vw_out h] at hb
    exact w.sub b o hb
theorem vw_rep {v : V} (w : Wl K G H cs) (hl : lstC cs) (r : RepC K G cs v d) : Rep K (vw G H cs) v d := by
  rcases r with r | ⟨a, rfl, c⟩
  · exact r.mono (vw_ex w)
  · obtain ⟨ds, rfl⟩ := hl _ c
    obtain ⟨_, vs, e, r⟩ := w.cell _ c
    refine .lst ?_ (r.mono (vw_ex w))
    rw [vw_in ⟨_, c, rfl⟩]
    exact e
theorem vw_repL (w : Wl K G H cs) (hl : lstC cs) : ∀ {vs : List V} {ds : List D}, RepCL K G cs vs ds → RepL K (vw G H cs) vs ds
  | _, _, .nil => .nil
  | _, _, .cons r rs => .cons (vw_rep w hl r) (vw_repL w hl rs)
theorem nx_back (w : Wl K G H cs) (n : Nx (vw G H cs) H G2 H2) : Nx G H (unv G2 cs) H2 := by
  refine ⟨fun b o hb => ?_, n.h, fun b o hb => ?_, fun b o hb hg => ?_⟩
  · have hn : ¬ ∃ c ∈ cs, c.1 = b := fun ⟨c, hc, e⟩ => by
      have := (w.cell c hc).1
      rw [e, hb] at this
      cases this
    rw [unv_out hn]
    exact n.g b o (vw_ex w b o hb)
  · by_cases h : ∃ c ∈ cs, c.1 = b
    · rw [unv_in h] at hb
      cases hb
    · rw [unv_out h] at hb
      exact n.s b o hb
  · by_cases h : ∃ c ∈ cs, c.1 = b
    · rw [unv_in h] at hb
      cases hb
    · rw [unv_out h] at hb
      exact n.f b o hb (by rw [vw_out h]; exact hg)
theorem vw_lst (w : Wl K G H cs) (hl : lstC cs) (n : Ex (vw G H cs) G2) : ∀ c ∈ cs, ∃ us, G2 c.1 = some (.lst us) := fun c hc => by
  obtain ⟨ds, e⟩ := hl c hc
  obtain ⟨_, k⟩ := w.cell c hc
  rw [e] at k
  obtain ⟨vs, e2, _⟩ := k
  refine ⟨vs, n _ _ ?_⟩
  rw [vw_in ⟨c, hc, rfl⟩]
  exact e2
theorem unv_at {b : Addr} {o : HO} (hL : ∀ c ∈ cs, ∃ us, G2 c.1 = some (.lst us)) (h : G2 b = some o) (ho : ∀ us, o ≠ .lst us) : unv G2 cs b = some o := by
  rw [unv_out]
  · exact h
  · rintro ⟨c, hc, rfl⟩
    obtain ⟨us, hu⟩ := hL c hc
    rw [h] at hu
    cases hu
    exact ho us rfl
mutual
theorem Rep.unv (hL : ∀ c ∈ cs, ∃ us, G2 c.1 = some (.lst us)) : ∀ {v : V} {d : D}, Rep K G2 v d → nl d = true → Rep K (unv G2 cs) v d
  | _, _, .non, _ => .non
  | _, _, .bl b, _ => .bl b
  | _, _, .int i, _ => .int i
  | _, _, .str s, _ => .str s
  | _, _, .tup h r, p => by
    rw [nl] at p
    refine .tup ?_ (RepL.unv hL r p)
    rcases h with h | ⟨rfl, h⟩
    · exact .inl (unv_at hL h fun us e => by cases e)
    · refine .inr ⟨rfl, ?_⟩
      rcases h with (h | h) | h
      · exact .inl (.inl (unv_at hL h fun us e => by cases e))
      · obtain ⟨q1, q2⟩ := h
        exact .inl (.inr ⟨q1, unv_at hL q2 fun us e => by cases e⟩)
      · exact .inr h
  | _, _, .lst h r, p => by rw [nl] at p <;> first | cases p | simp
  | _, _, .obj h r, p => by
    rw [nl] at p
    exact .obj (unv_at hL h fun us e => by cases e) (RepF.unv hL r p)
  | _, _, .scr h, p => by rw [nl] at p <;> first | cases p | simp
  | _, _, .dik h _ r, p => by rw [nl] at p <;> first | cases p | simp
  | _, _, .dit h _ r, p => by rw [nl] at p <;> first | cases p | simp
  | _, _, .dix h _ r _, p => by rw [nl] at p <;> first | cases p | simp
  | _, _, .any v, _ => .any v
theorem RepL.unv (hL : ∀ c ∈ cs, ∃ us, G2 c.1 = some (.lst us)) : ∀ {vs : List V} {ds : List D}, RepL K G2 vs ds → nlL ds = true → RepL K (unv G2 cs) vs ds
  | _, _, .nil, _ => .nil
  | _, _, .cons h r, p => by
    rw [nlL, Bool.and_eq_true_iff] at p
    exact .cons (Rep.unv hL h p.1) (RepL.unv hL r p.2)
theorem RepF.unv (hL : ∀ c ∈ cs, ∃ us, G2 c.1 = some (.lst us)) : ∀ {vs : List (Str × V)} {ds : List (Str × D)}, RepF K G2 vs ds → nlF ds = true → RepF K (unv G2 cs) vs ds
  | _, _, .nil, _ => .nil
  | _, _, .cons h r, p => by
    rw [nlF, Bool.and_eq_true_iff] at p
    exact .cons (Rep.unv hL h p.1) (RepF.unv hL r p.2)
end
def nlO : Out → Bool
  | .ret d => nl d
  | .new ds => nlL ds
  | .exc _ none => true
  | .exc _ (some fs) => nlF fs
theorem gets_unv {Q : VK} {E : XK} {o : Out} (w : Wl K G H cs) (hl : lstC cs) (hn : nlO o = true) (q : Gets K G H Q E o) : Gets K (vw G H cs) H Q E o := by
  cases o with
  | ret d => exact fun v G2 H2 n r => q v _ H2 (nx_back w n) (r.unv (vw_lst w hl n.g) hn)
  | new ds =>
    intro p us G2 H2 n hp gp h2 r
    refine q p us _ H2 (nx_back w n) hp ?_ h2 (r.unv (vw_lst w hl n.g) hn)
    by_cases h : ∃ c ∈ cs, c.1 = p
    · exact unv_in h
    · rw [unv_out h]; exact gp
  | exc cls fs =>
    intro dd G2 H2 n x xn
    refine q dd _ H2 (nx_back w n) ?_ fun p hp => ⟨(xn p hp).1, ?_, (xn p hp).2.2⟩
    · cases fs with
      | none => exact x
      | some fs =>
        obtain ⟨p, vs, e1, e2, r⟩ := x
        exact ⟨p, vs, e1, e2, r.unv (vw_lst w hl n.g) hn⟩
    · by_cases h : ∃ c ∈ cs, c.1 = p
      · exact unv_in h
      · rw [unv_out h]; exact (xn p hp).2.1
theorem ee_callV {sp : Sp} {ta : TA} {ds : List D} {o : Out} (h : EvAR K ta ρ cs ds) (hs : SpX K sp ds o) (hl : lstC cs) (hn : nlO o = true) : EvE K W (tCallS sp (WE W) ta) ρ cs o := fun G H σ w e Q q =>
  h G H σ w e _ fun vs G2 H2 n rs => hs _ H2 vs (vw_sub (w.step n)) (vw_repL (w.step n) hl rs) Q _ (gets_unv (w.step n) hl hn (gets_step n q))
theorem ev_callV {sp : Sp} {ta : TA} {ds : List D} (h : EvAR K ta ρ cs ds) (hs : SpX K sp ds (.ret z)) (hl : lstC cs) (hn : nl z = true) : Ev K (tCallS sp (WE W) ta) ρ cs z := ee_callV h hs hl hn
theorem ee_methV {C : Addr} {m : Str} {sp : Sp} {ta : TE} {t : TA} {fs : List (Str × D)} {ds : List D} {o : Out} (ho : Ev K ta ρ cs (.obj C fs)) (hm : fs.lookup m = none) (h : EvAR K t ρ cs ds) (hs : SpX K sp (.obj C fs :: ds) o) (hl : lstC cs) (hn : nlO o = true) : EvE K W (tMethW C m sp (WE W) ta t) ρ cs o := fun G H σ w e Q q =>
  ho G H σ w e _ fun v G2 H2 n r => by
    cases r with
    | obj hg rf =>
      refine ⟨_, _, _, rfl, n.s _ _ hg, rf.lookup_none hm, h G2 H2 σ (w.step n) (e.mono n.g) _ fun vs G3 H3 n2 rs => ?_⟩
      have w3 := (w.step n).step n2
      exact hs _ H3 _ (vw_sub w3) (.cons ((Rep.obj (n2.g _ _ hg) (rf.mono n2.g)).mono (vw_ex w3)) (vw_repL w3 hl rs)) Q _ (gets_unv w3 hl hn (gets_step (n.trans n2) q))
theorem ev_methV {C : Addr} {m : Str} {sp : Sp} {ta : TE} {t : TA} {fs : List (Str × D)} {ds : List D} (ho : Ev K ta ρ cs (.obj C fs)) (hm : fs.lookup m = none) (h : EvAR K t ρ cs ds) (hs : SpX K sp (.obj C fs :: ds) (.ret z)) (hl : lstC cs) (hn : nl z = true) : Ev K (tMethW C m sp (WE W) ta t) ρ cs z := ee_methV ho hm h hs hl hn
theorem ee_makeV {n : Nat} {A : List D → Out → Prop} {C : Addr} {cls : Value} {fs : Option (List (Str × D))} {ta : TA} {ds : List D} (h : EvAR K ta ρ cs ds) (hA : A ds (.exc cls fs)) (hn : ds.length = n) (hl : lstC cs) (hz : nlO (.exc cls fs) = true) : EvE K W (tMakeS C (spI K C n A) (WE W) ta) ρ cs (.exc cls fs) := fun G H σ w e Q q =>
  h G H σ w e _ fun vs G2 H2 nx rs x dx hx hdx hne => make_ok (o := .exc cls fs) (sp := fun _ _ _ _ => True) (vw_sub (w.step nx)) (vw_repL (w.step nx) hl rs) hn hA trivial (gets_unv (w.step nx) hl hz (gets_step nx q)) x dx hx hdx hne
theorem ev_makeV {n : Nat} {A : List D → Out → Prop} {C : Addr} {fs : List (Str × D)} {ta : TA} {ds : List D} (h : EvAR K ta ρ cs ds) (hA : A ds (.ret (.obj C fs))) (hn : ds.length = n) (hl : lstC cs) (hz : nlF fs = true) : Ev K (tMakeS C (spI K C n A) (WE W) ta) ρ cs (.obj C fs) := fun G H σ w e Q q =>
  h G H σ w e _ fun vs G2 H2 nx rs x dx hx hdx hne => make_ok (o := .ret (.obj C fs)) (sp := fun _ _ _ _ => True) (vw_sub (w.step nx)) (vw_repL (w.step nx) hl rs) hn hA rfl (gets_unv (w.step nx) hl (by show nl (.obj C fs) = true; rw [nl]; exact hz) (gets_step nx q)) x dx hx hdx hne
/-! ### list.insert -/
def rInsV : V → List V → Hp → VK → Prop := fun x vs H Q => ∃ (l : Addr) (xs : List V) (i : Int) (y : V), x = .ref l ∧ vs = [.int i, y] ∧ H l = some (.lst xs) ∧ xs.length < sizeLine ∧ 0 ≤ i ∧ i < 2 ^ 63 ∧ Q .non (upd H l (.lst (xs.take i.toNat ++ [y] ++ xs.drop i.toNat)))
theorem mt_insV {X : Cx} : MtR X "list.insert" rInsV := mt_insert
theorem sv_ins {a : Addr} {ds : List D} {ti : TE} {j : Nat} (hc : (a, .lst ds) ∈ cs) (ho : Ev K ta ρ cs (.any (.ref a))) (hi : Ev K ti ρ cs (.int (j : Int))) (hj : j ≤ 100000) (h : Ev K te ρ cs d) (hz : ds.length < 100000) (k : P.nx ρ (setC a (.lst (ds.take j ++ [d] ++ ds.drop j)) cs)) :
    Sv K W bs (tDrop (tBM K "list" rInsV ta (tCons ti (tCons te tNil)))) ρ cs P := fun G0 H0 G H σ E r e o => ho G H σ r.wl e _ fun v G2 H2 n rv => by
  cases rv
  have r2 := r.step n
  obtain ⟨_, vs, hv, _⟩ := r2.wl.cell _ hc
  refine ⟨Or.inl ⟨rfl, vs, .inl (.inl hv)⟩, hi G2 H2 σ r2.wl (e.mono n.g) _ fun yi G3 H3 n3 ri => h G3 H3 σ (r2.step n3).wl ((e.mono n.g).mono n3.g) _ fun y G4 H4 n4 ry => ?_⟩
  cases ri
  have r4 := (r2.step n3).step n4
  obtain ⟨_, us, hu, ru⟩ := r4.wl.cell _ hc
  refine ⟨a, us, (j : Int), y, rfl, rfl, hu, by rw [ru.length]; exact Evl.sz_lt hz, by omega, by omega, ?_⟩
  exact o.nx G4 _ σ ρ _ (r4.write (d' := .lst (ds.take j ++ [d] ++ ds.drop j)) hc ⟨us.take j ++ [y] ++ us.drop j, upd_same, ((ru.take j).append (.one ry)).append (ru.drop j)⟩) (((e.mono n.g).mono n3.g).mono n4.g) k
end
end Lv

namespace Lv
open PySem L2
open Evl (Ex)
/-! ### a new list of new lists, all of which may change -/
section
variable {K : PySem.W.Frag} {G G0 G1 G2 H H0 H1 H2 H3 G3 : Hp} {ρ ρ1 : Ro} {cs : Cs} {ta tb te tx td ty tv : TE} {d d' e x y z : D} {W : WX} {bs : List Addr} {P : Po} {t u v : TS}
/-- the cells cl are new since H -/
def NewC (K : PySem.W.Frag) (H G2 H2 : Hp) (cl : Cs) : Prop := ∀ c ∈ cl, H c.1 = none ∧ G2 c.1 = none ∧ Cell K G2 H2 c.1 c.2
theorem NewC.step {cl : Cs} (h : NewC K H G2 H2 cl) (n : Nx G2 H2 G3 H3) : NewC K H G3 H3 cl := fun c hc => by
  obtain ⟨h1, h2, h3⟩ := h c hc
  refine ⟨h1, ?_, h3.mono n.g n.h⟩
  obtain ⟨o, ho⟩ := h3.some
  exact n.keepN ho h2
def EvNN (K : PySem.W.Frag) (te : TE) (ρ : Ro) (cs : Cs) (dss : List D) : Prop := ∀ G H σ, Wl K G H cs → Env K G σ ρ → ∀ Q : VK, (∀ p cl G2 H2, Nx G H G2 H2 → NewC K H G2 H2 cl → (p :: cl.map (·.1)).Nodup → H p = none → G2 p = none → H2 p = some (.lst (cl.map fun c => V.ref c.1)) → cl.map (·.2) = dss → Q (.ref p) H2) → te σ H Q
def LcN (K : PySem.W.Frag) (G1 H1 : Hp) (Dl : Addr) (dss : List D) (Hc : Hp) : Prop := ∃ Gc cl, Nx G1 H1 Gc Hc ∧ Gc Dl = none ∧ Hc Dl = some (.lst (cl.map fun c => V.ref c.1)) ∧ NewC K H1 Gc Hc cl ∧ (Dl :: cl.map (·.1)).Nodup ∧ cl.map (·.2) = dss
theorem en_nest {α : Type} {xs : List α} {enc : α → D} {wi : TI} {g : TG} {vs js : List Nat} {src : Cs} {v : α → List D} {ρ' : α → Ro} (hi : EvI K wi ρ cs src (xs.map enc)) (hg : ∀ a ∈ xs, EvG K g (enc a) (wipeD ρ vs) (ρ' a) js) (hj : ∀ j ∈ js, j ∈ vs)
    (he : ∀ a ∈ xs, EvN K te (ρ' a) cs (v a)) (hl : xs.length ≤ 100000) : EvNN K (tLc wi g tYes te vs) ρ cs (xs.map fun a => .lst (v a)) := fun G H σ w e Q q =>
  hi G H σ w e _ fun J G1 H1 n1 hsrc its Dl hDl => by
    have w1 := w.step n1
    have e1 : Env K G1 (wipe σ vs) (wipeD ρ vs) := (e.mono n1.g).wipe vs
    refine ⟨fun i m Hc => m = xs.length - i ∧ i ≤ xs.length ∧ LcN K G1 H1 Dl ((xs.take i).map fun a => .lst (v a)) Hc, ⟨xs.length, rfl, Nat.zero_le _, G1, [], Nx.newc w1.sub hDl, Evl.fresh_back w1.sub hDl, upd_same, (fun c hc => by cases hc), by simp, rfl⟩, fun i m Hc hW => ?_⟩
    obtain ⟨rfl, hle, Gc, cl, n, gD, hD, nc, nd, hds⟩ := hW
    have wc := w1.step n
    by_cases hlt : i < xs.length
    · have hmem : xs[i] ∈ xs := List.getElem_mem hlt
      have hat : (xs.map enc)[i]? = some (enc xs[i]) := by rw [List.getElem?_map, List.getElem?_eq_getElem hlt]; rfl
      have tk : xs.take (i + 1) = xs.take i ++ [xs[i]] := by rw [List.take_add_one, List.getElem?_eq_getElem hlt]; rfl
      have hlen : cl.length < 100000 := by
        have := congrArg List.length hds
        rw [List.length_map, List.length_map, List.length_take] at this
        omega
      obtain ⟨go, yl⟩ := its.go i _ Gc Hc cs hat n.g wc hsrc
      refine .inr ⟨go, fun Hn => LcN K G1 H1 Dl ((xs.take (i + 1)).map fun a => .lst (v a)) Hn, fun Hn h => ⟨xs.length - (i + 1), by omega, rfl, by omega, h⟩, fun x H' hy => ?_⟩
      obtain ⟨G4, n4, rx⟩ := yl x H' hy
      refine hg _ hmem G4 H' (wipe σ vs) x n4.s ((e1.mono n.g).mono n4.g) rx _ fun σ2 e2 s2 => ⟨wipe_eq s2 hj, ?_⟩
      have w4 := wc.step n4
      refine et_yes G4 H' σ2 w4 e2 _ fun G5 H5 n5 => ?_
      have gD5 : G5 Dl = none := (n4.trans n5).keepN hD gD
      have hD5 : H5 Dl = some (.lst (cl.map fun c => V.ref c.1)) := (n4.trans n5).h _ _ hD
      have nc5 := nc.step (n4.trans n5)
      rw [if_pos rfl]
      refine he _ hmem G5 H5 σ2 (w4.step n5) (e2.mono n5.g) _ fun p us G6 H6 n6 hp gp h6 r6 => ?_
      have gD6 : G6 Dl = none := n6.keepN hD5 gD5
      have hpD : p ≠ Dl := fun z => by rw [z, hD5] at hp; cases hp
      have hp1 : H1 p = none := by
        cases hh : H1 p with
        | none => rfl
        | some o =>
          have := ((n.trans n4).trans n5).h p o hh
          rw [hp] at this
          cases this
      have nc6 := nc5.step n6
      have hpn : ∀ c ∈ cl, c.1 ≠ p := fun c hc z => by
        obtain ⟨o, ho⟩ := (nc5 c hc).2.2.some
        rw [z, hp] at ho
        cases ho
      have hDn : ∀ c ∈ cl, c.1 ≠ Dl := fun c hc z => by
        have := (List.nodup_cons.mp nd).1
        exact this (List.mem_map.mpr ⟨c, hc, z⟩)
      refine ⟨_, n6.h _ _ hD5, by rw [List.length_map]; exact Evl.sz_lt hlen, G6, cl ++ [(p, .lst (v xs[i]))], (((n.trans n4).trans n5).trans n6).mutate hDl gD6, gD6, ?_, ?_, ?_, ?_⟩
      · rw [upd_same, List.map_append]
        rfl
      · intro c hc
        rcases List.mem_append.mp hc with hc | hc
        · obtain ⟨a1, a2, a3⟩ := nc6 c hc
          exact ⟨a1, a2, a3.upd_ne (hDn c hc)⟩
        · rw [List.mem_singleton] at hc
          subst hc
          refine ⟨hp1, gp, us, ?_, r6⟩
          rw [L2.upd_ne hpD]
          exact h6
      · rw [List.nodup_cons, List.map_append]
        obtain ⟨a1, a2⟩ := List.nodup_cons.mp nd
        refine ⟨fun z => ?_, ?_⟩
        · rcases List.mem_append.mp z with z | z
          · exact a1 z
          · have z : Dl = p := by simpa using z
            exact hpD z.symm
        · rw [List.nodup_append]
          refine ⟨a2, by simp, fun a ha b hb z => ?_⟩
          obtain ⟨c, hc, rfl⟩ := List.mem_map.mp ha
          have hb : b = p := by simpa using hb
          exact hpn c hc (z.trans hb)
      · rw [List.map_append, hds, tk, List.map_append]
        rfl
    · refine .inl ⟨its.stop i Gc Hc cs (by rw [List.length_map]; omega) n.g wc hsrc, ?_⟩
      have nc0 : NewC K H Gc Hc cl := fun c hc => ⟨Evl.fresh_back n1.h (nc c hc).1, (nc c hc).2.1, (nc c hc).2.2⟩
      refine q Dl cl Gc Hc (n1.trans n) nc0 nd (Evl.fresh_back n1.h hDl) gD hD ?_
      rw [hds, List.take_of_length_le (by omega)]
theorem Rl.newCells : ∀ {cl : Cs} (r : Rl K G0 H0 bs G H cs) (h : ∀ c ∈ cl, H0 c.1 = none ∧ G c.1 = none ∧ Cell K G H c.1 c.2 ∧ ∀ e ∈ cs, e.1 ≠ c.1) (nd : (cl.map (·.1)).Nodup), Rl K G0 H0 bs G H (cl ++ cs)
  | [], r, _, _ => r
  | c :: cl, r, h, nd => by
    rw [List.map_cons, List.nodup_cons] at nd
    have r2 := Rl.newCells (cl := cl) r (fun e he => h e (List.mem_cons_of_mem _ he)) nd.2
    obtain ⟨h1, h2, h3, h4⟩ := h c List.mem_cons_self
    refine r2.newCellD h1 h2 h3 fun e he => ?_
    rcases List.mem_append.mp he with he | he
    · exact fun z => nd.1 (List.mem_map.mpr ⟨e, he, z⟩)
    · exact h4 e he
/-- what is known of the new cells -/
structure Fre (bs : List Addr) (cs : Cs) (p : Addr) (cl : Cs) : Prop where
  nd : (p :: cl.map (·.1)).Nodup
  pb : p ∉ bs
  pc : ∀ c ∈ cs, c.1 ≠ p
  cb : ∀ c ∈ cl, c.1 ∉ bs
  cc : ∀ c ∈ cl, ∀ e ∈ cs, e.1 ≠ c.1
theorem sv_setNN {i : Nat} {dss : List D} (h : EvNN K te ρ cs dss) (k : ∀ p cl, cl.map (·.2) = dss → Fre bs cs p cl → P.nx (ρ.set i (some (.any (.ref p)))) ((p, .lst (cl.map fun c => .any (.ref c.1))) :: (cl ++ cs))) : Sv K W bs (tAsg te (gName i)) ρ cs P := fun G0 H0 G H σ E r e o =>
  h G H σ r.wl e _ fun p cl G2 H2 n nc nd hp gp h2 hds => by
    obtain ⟨a1, a2, a3⟩ := r.none0 hp
    have r2 := r.step n
    have r3 := Rl.newCells (cl := cl) r2 (fun c hc => ⟨(r.none0 (nc c hc).1).1, (nc c hc).2.1, (nc c hc).2.2, (r.none0 (nc c hc).1).2.2⟩) (List.nodup_cons.mp nd).2
    have rr : RepL K G2 (cl.map fun c => V.ref c.1) (cl.map fun c => D.any (.ref c.1)) := by
      clear nc nd h2 hds r3
      induction cl with
      | nil => exact .nil
      | cons c cl ih => exact .cons (.any _) ih
    have r4 := r3.newCellD (d := .lst (cl.map fun c => .any (.ref c.1))) a1 gp ⟨_, h2, rr⟩ fun c hc => by
      rcases List.mem_append.mp hc with hc | hc
      · exact fun z => (List.nodup_cons.mp nd).1 (List.mem_map.mpr ⟨c, hc, z⟩)
      · exact a3 c hc
    exact o.nx G2 H2 _ _ _ r4 ((e.mono n.g).set i (.any _)) (k p cl hds ⟨nd, a2, a3, fun c hc => (r.none0 (nc c hc).1).2.1, fun c hc => (r.none0 (nc c hc).1).2.2⟩)
theorem q_setNN {i : Nat} {dss : List D} (h : EvNN K te ρ cs dss) (k : ∀ p cl, cl.map (·.2) = dss → Fre bs cs p cl → Sv K W bs u (ρ.set i (some (.any (.ref p)))) ((p, .lst (cl.map fun c => .any (.ref c.1))) :: (cl ++ cs)) P) : Sv K W bs (tSeq (tAsg te (gName i)) u) ρ cs P := sv_seq (sv_setNN h k)
/-! ### a list of list cells, read as a whole -/
/-- te gives what is d as long as no cell changes -/
def EvV (K : PySem.W.Frag) (te : TE) (ρ : Ro) (cs : Cs) (d : D) : Prop := ∀ G H σ, Wl K G H cs → Env K G σ ρ → ∀ Q : VK, (∀ v G2 H2, Nx G H G2 H2 → Rep K (vw G2 H2 cs) v d → Q v H2) → te σ H Q
def EvAV (K : PySem.W.Frag) (ta : TA) (ρ : Ro) (cs : Cs) (ds : List D) : Prop := ∀ G H σ, Wl K G H cs → Env K G σ ρ → ∀ Q : List V → Hp → Prop, (∀ vs G2 H2, Nx G H G2 H2 → RepL K (vw G2 H2 cs) vs ds → Q vs H2) → ta σ H Q
theorem vw_step (w : Wl K G H cs) (n : Nx G H G2 H2) : Ex (vw G H cs) (vw G2 H2 cs) := fun b o hb => by
  by_cases h : ∃ c ∈ cs, c.1 = b
  · rw [vw_in h] at hb ⊢
    exact n.h b o hb
  · rw [vw_out h] at hb ⊢
    exact n.g b o hb
theorem Ev.vv (h : Ev K te ρ cs d) : EvV K te ρ cs d := fun G H σ w e Q q => h G H σ w e _ fun v G2 H2 n r => q v G2 H2 n (r.mono (vw_ex (w.step n)))
theorem EvR.vv (h : EvR K te ρ cs d) (hl : lstC cs) : EvV K te ρ cs d := fun G H σ w e Q q => h G H σ w e _ fun v G2 H2 n r => q v G2 H2 n (vw_rep (w.step n) hl r)
theorem eav_nil : EvAV K tNil ρ cs [] := fun G H σ w e Q q => q [] G H (Nx.refl w.sub) .nil
theorem eav_cons {t : TA} {ds : List D} (h1 : EvV K te ρ cs d) (h2 : EvAV K t ρ cs ds) : EvAV K (tCons te t) ρ cs (d :: ds) := fun G H σ w e Q q =>
  h1 G H σ w e _ fun v G2 H2 n r => h2 G2 H2 σ (w.step n) (e.mono n.g) _ fun vs G3 H3 n3 rs => q _ G3 H3 (n.trans n3) (.cons (r.mono (vw_step (w.step n) n3)) rs)
theorem vw_refs {cl : Cs} {dss : List D} (w : Wl K G H cs) (hl : ∀ c ∈ cl, c ∈ cs) (hc : lstC cl) (hd : cl.map (·.2) = dss) : RepL K (vw G H cs) (cl.map fun c => V.ref c.1) dss := by
  subst hd
  induction cl with
  | nil => exact .nil
  | cons c cl ih =>
    refine .cons ?_ (ih (fun e he => hl e (List.mem_cons_of_mem _ he)) (fun e he => hc e (List.mem_cons_of_mem _ he)))
    obtain ⟨ds, e⟩ := hc c List.mem_cons_self
    have hcc := hl c List.mem_cons_self
    obtain ⟨_, k⟩ := w.cell c hcc
    rw [e] at k
    obtain ⟨vs, e2, r⟩ := k
    show Rep K (vw G H cs) (.ref c.1) c.2
    rw [e]
    refine .lst ?_ (r.mono (vw_ex w))
    rw [vw_in ⟨c, hcc, rfl⟩]
    exact e2
theorem repL_refs : ∀ {cl : Cs} {vs : List V}, RepL K G vs (cl.map fun c => D.any (.ref c.1)) → vs = cl.map fun c => V.ref c.1
  | [], _, r => by cases r; rfl
  | c :: cl, _, r => by
    cases r with
    | cons a b =>
      cases a
      rw [repL_refs b]
      rfl
theorem vv_nest {p : Addr} {cl : Cs} {dss : List D} (h : Ev K te ρ cs (.any (.ref p))) (hp : (p, .lst (cl.map fun c => .any (.ref c.1))) ∈ cs) (hl : ∀ c ∈ cl, c ∈ cs) (hc : lstC cl) (hd : cl.map (·.2) = dss) : EvV K te ρ cs (.lst dss) := fun G H σ w e Q q => h G H σ w e _ fun v G2 H2 n r => by
  cases r
  have w2 := w.step n
  obtain ⟨_, vs, e2, r2⟩ := w2.cell _ hp
  have ev : vs = cl.map fun c => V.ref c.1 := repL_refs r2
  refine q _ G2 H2 n (.lst ?_ (vw_refs w2 hl hc hd))
  rw [vw_in ⟨_, hp, rfl⟩, ← ev]
  exact e2
theorem ee_callW {sp : Sp} {ta : TA} {ds : List D} {o : Out} (h : EvAV K ta ρ cs ds) (hs : SpX K sp ds o) (hl : lstC cs) (hn : nlO o = true) : EvE K W (tCallS sp (WE W) ta) ρ cs o := fun G H σ w e Q q =>
  h G H σ w e _ fun vs G2 H2 n rs => hs _ H2 vs (vw_sub (w.step n)) rs Q _ (gets_unv (w.step n) hl hn (gets_step n q))
theorem ev_callW {sp : Sp} {ta : TA} {ds : List D} (h : EvAV K ta ρ cs ds) (hs : SpX K sp ds (.ret z)) (hl : lstC cs) (hn : nl z = true) : Ev K (tCallS sp (WE W) ta) ρ cs z := ee_callW h hs hl hn
theorem ev_makeW {n : Nat} {A : List D → Out → Prop} {C : Addr} {fs : List (Str × D)} {ta : TA} {ds : List D} (h : EvAV K ta ρ cs ds) (hA : A ds (.ret (.obj C fs))) (hn : ds.length = n) (hl : lstC cs) (hz : nlF fs = true) : Ev K (tMakeS C (spI K C n A) (WE W) ta) ρ cs (.obj C fs) := fun G H σ w e Q q =>
  h G H σ w e _ fun vs G2 H2 nx rs x dx hx hdx hne => make_ok (o := .ret (.obj C fs)) (sp := fun _ _ _ _ => True) (vw_sub (w.step nx)) rs hn hA rfl (gets_unv (w.step nx) hl (by show nl (.obj C fs) = true; rw [nl]; exact hz) (gets_step nx q)) x dx hx hdx hne
theorem ev_opV {rr : V → V → Hp → VK → Prop} (ha : EvV K ta ρ cs x) (hb : EvV K tb ρ cs y) (hr : OpD K rr [] x y z) (hl : lstC cs) (hn : nl z = true) : Ev K (tOp rr ta tb) ρ cs z := fun G H σ w e Q q =>
  ha G H σ w e _ fun vx G2 H2 n rx => hb G2 H2 σ (w.step n) (e.mono n.g) _ fun vy G3 H3 n3 ry => by
    have w3 := (w.step n).step n3
    have wv : Wl K (vw G3 H3 cs) H3 [] := ⟨vw_sub w3, (fun c hc => by cases hc), by simp⟩
    exact hr _ H3 vx vy wv (.inl (rx.mono (vw_step (w.step n) n3))) (.inl ry) Q (gets_unv (E := E0) (o := .ret z) w3 hl hn (gets_step (E := E0) (n.trans n3) (o := .ret z) q))
/-- a cell behind an expression -/
theorem er_thru {b : Addr} (h : Ev K te ρ cs (.any (.ref b))) (hc : (b, d) ∈ cs) : EvR K te ρ cs d := fun G H σ w e Q q => h G H σ w e _ fun v G2 H2 n r => by
  cases r
  exact q _ G2 H2 n (.inr ⟨b, rfl, hc⟩)
/-- a new list is appended that may change -/
theorem sv_appC {a : Addr} {ds es : List D} (hc : (a, .lst ds) ∈ cs) (ho : Ev K ta ρ cs (.any (.ref a))) (h : EvN K te ρ cs es) (hz : ds.length < 100000) (k : ∀ b, b ∉ bs → (∀ c ∈ cs, c.1 ≠ b) → P.nx ρ ((b, .lst es) :: setC a (.lst (ds ++ [.any (.ref b)])) cs)) :
    Sv K W bs (tDrop (tBM K "list" rAppend ta (tCons te tNil))) ρ cs P := fun G0 H0 G H σ E r e o => ho G H σ r.wl e _ fun v G2 H2 n rv => by
  cases rv
  have r2 := r.step n
  obtain ⟨_, vs, hv, _⟩ := r2.wl.cell _ hc
  refine ⟨Or.inl ⟨rfl, vs, .inl (.inl hv)⟩, h G2 H2 σ r2.wl (e.mono n.g) _ fun b us G3 H3 n3 hb gb h3 r3 => ?_⟩
  obtain ⟨a1, a2, a3⟩ := r2.none0 hb
  have r4 := (r2.step n3).newCellD (d := .lst es) a1 gb ⟨us, h3, r3⟩ a3
  obtain ⟨_, ws, hw, rw_⟩ := r4.wl.cell _ (List.mem_cons_of_mem _ hc)
  refine ⟨a, ws, .ref b, rfl, rfl, hw, by rw [rw_.length]; exact Evl.sz_lt hz, ?_⟩
  have r5 := r4.write (d' := .lst (ds ++ [.any (.ref b)])) (List.mem_cons_of_mem _ hc) ⟨ws ++ [.ref b], upd_same, rw_.append (.one (.any _))⟩
  have hab : b ≠ a := fun z => a3 _ hc z.symm
  have e5 : setC a (.lst (ds ++ [.any (.ref b)])) ((b, .lst es) :: cs) = (b, .lst es) :: setC a (.lst (ds ++ [.any (.ref b)])) cs := by
    rw [setC]
    rw [if_neg hab]
  rw [e5] at r5
  exact o.nx G3 _ σ ρ _ r5 ((e.mono n.g).mono n3.g) (k b a2 a3)
end
end Lv

namespace Lv
open PySem L2
open Evl (Ex)
/-! ### raise X() -/
theorem pmk_ownF0 {X : Cx} {x : Str} {p pos : Pos} {C : Addr} (T : Xo X.K X.mg x C) (hg : Gl X x := by rfl) (hdb : (x == ("__debug__" : Str)) = false := by decide) : L2N.PMk X (.Call (.Name x p) [] [] pos) (fun _ H Q => Q (.ref C) none H) := by
  intro pins s σ H Q I h
  refine wpAny_Call_Name_kw (ld_glob I hg T.gx ?_ hdb)
  refine PySem.W.callWith_K0 I.kIn T.kp ?_
  show wpAny _ _ (call (.ref C) []) _ _ _
  obtain ⟨_, _, _, _, _, _, _, _, _, _, _, _, _, _, _, _, _, g1, g2, g3, gT⟩ := exc_obj I.kIn T.ex
  refine wpAny_call_exc_subT PySem.F.excBase_ValueError gT g1 g2 g3 (fun h' e hm => ?_) (by show 0 ≤ sizeLine; omega)
  exact L2N.mk_of I hm (raises_own T.sb T.ty) h (I.hok.gone hm.new)
/-! ### sep.join(list) -/
def rJoinK (K : PySem.W.Frag) : V → List V → Hp → VK → Prop := fun x xs H Q => ∃ a p, ∃ ys : List Str, x = .str a ∧ xs = [.ref p] ∧ (SqL K H p (ys.map V.str) ∨ SqT K H p (ys.map V.str)) ∧ (ys.map (·.length)).sum + ys.length * a.length ≤ 16777216 ∧ Q (.str (Txt.join a ys)) H
theorem pe_joinK {X : Cx} (K : PySem.W.Frag) {o e : Expr} {to te : TE} {apos pos : Pos} (ho : PE X o to) (he : PE X e te) (hs : starEach [e] X.env = [(false, eval e X.env)] := by rfl) (hb : attributeBase o "join" X.env (eval o X.env) = eval o X.env := by rfl) (hl : (apos.endLine == pos.line) = true := by rfl) (hK : X.K = K := by rfl) :
    PE X (.Call (.Attribute o "join" apos) [e] [] pos) (tM1 (rJoinK K) to te) := by
  subst hK
  exact pe_join ho he hs hb hl
theorem repL_strs {K : PySem.W.Frag} {G : Hp} : ∀ {ys : List Str} {vs : List V}, RepL K G vs (ys.map D.str) → vs = ys.map V.str
  | [], _, r => by cases r; rfl
  | y :: ys, _, r => by
    cases r with
    | cons a b =>
      cases a
      rw [repL_strs b]
      rfl
theorem ev_join {K : PySem.W.Frag} {ρ : Ro} {cs : Cs} {to te : TE} {a : Str} {ys : List Str} (h1 : Ev K to ρ cs (.str a)) (h2 : EvR K te ρ cs (.lst (ys.map D.str))) (hz : (ys.map (·.length)).sum + ys.length * a.length ≤ 16777216) : Ev K (tM1 (rJoinK K) to te) ρ cs (.str (Txt.join a ys)) := fun G H σ w e Q q =>
  h1 G H σ w e _ fun v G2 H2 n r => by
    cases r
    refine ⟨⟨a, rfl⟩, h2 G2 H2 σ (w.step n) (e.mono n.g) _ fun y G3 H3 n3 ry => ?_⟩
    obtain ⟨p, vs, rfl, hp, rv⟩ := ry.seqL ((w.step n).step n3)
    refine ⟨a, p, ys, rfl, rfl, .inl (.inl (.inl ?_)), hz, q _ G3 H3 (n.trans n3) (.str _)⟩
    rw [← repL_strs rv]
    exact hp
end Lv

/-! F: a def as a plain function on data: what an expression gives, what a block does -/
namespace Lv
open PySem L2
open Evl (Ex)
inductive Kd where | pl | nw | ow | bw
/-- what an expression gives -/
inductive Rs where
  | ok (k : Kd) (d : D)
  | ex (c : Value) (fs : Option (List (Str × D)))
/-- a slot: empty, data, an own cell, the caller's cell, the exception at hand -/
inductive Sl where
  | no | pl (d : D) | ow (d : D) | bw (d : D) | xc (c : Value) (fs : Option (List (Str × D)))
abbrev Fs := List Sl
abbrev FE := Fs → Option Rs
def Sl.ro (a : Addr) : Sl → Option D
  | .no => none
  | .pl d => some d
  | _ => some (.any (.ref a))
def Sl.cs (a : Addr) : Sl → Cs
  | .ow d => [(a, d)]
  | .bw d => [(a, d)]
  | _ => []
def roOf (as : Nat → Addr) : Nat → Fs → Ro
  | _, [] => []
  | i, s :: φ => s.ro (as i) :: roOf as (i + 1) φ
def csOf (as : Nat → Addr) : Nat → Fs → Cs
  | _, [] => []
  | i, s :: φ => s.cs (as i) ++ csOf as (i + 1) φ
theorem roOf_get {as : Nat → Addr} : ∀ {k : Nat} {φ : Fs} {i : Nat}, (roOf as k φ)[i]? = (φ[i]?).map (Sl.ro (as (k + i)))
  | k, [], i => by simp [roOf]
  | k, s :: φ, 0 => by simp [roOf]
  | k, s :: φ, i + 1 => by
    rw [roOf, List.getElem?_cons_succ, List.getElem?_cons_succ, roOf_get (k := k + 1), Nat.add_right_comm, Nat.add_assoc]
theorem roOf_len {as : Nat → Addr} : ∀ {k : Nat} {φ : Fs}, (roOf as k φ).length = φ.length
  | k, [] => rfl
  | k, s :: φ => by rw [roOf, List.length_cons, List.length_cons, roOf_len]
theorem mem_csOf {as : Nat → Addr} {c : Addr × D} : ∀ {k : Nat} {φ : Fs}, c ∈ csOf as k φ ↔ ∃ i d, (φ[i]? = some (.ow d) ∨ φ[i]? = some (.bw d)) ∧ c = (as (k + i), d)
  | k, [] => by simp [csOf]
  | k, s :: φ => by
    rw [csOf, List.mem_append, mem_csOf (k := k + 1)]
    constructor
    · rintro (h | ⟨i, d, h, e⟩)
      · cases s with
        | ow d => exact ⟨0, d, .inl rfl, by simpa [Sl.cs] using h⟩
        | bw d => exact ⟨0, d, .inr rfl, by simpa [Sl.cs] using h⟩
        | _ => simp [Sl.cs] at h
      · exact ⟨i + 1, d, by simpa using h, by rw [e, Nat.add_right_comm, Nat.add_assoc]⟩
    · rintro ⟨i, d, h, e⟩
      cases i with
      | zero =>
        left
        rcases h with h | h
        · simp at h; subst h; simp [Sl.cs, e]
        · simp at h; subst h; simp [Sl.cs, e]
      | succ i => exact .inr ⟨i, d, by simpa using h, by rw [e, Nat.add_right_comm, Nat.add_assoc]⟩
/-- what is fixed: the exception at hand, the places of the caller's cells -/
structure Xe where
  a : Addr
  cls : Value
  dd : Option Addr
  bo : Nat → Addr
def Sl.isC : Sl → Bool
  | .ow _ => true
  | .bw _ => true
  | _ => false
structure XO (ε : Xe) (bs : List Addr) (as : Nat → Addr) (φ : Fs) (xs : Cs) : Prop where
  inj : ∀ i j s t, φ[i]? = some s → φ[j]? = some t → s.isC = true → t.isC = true → as i = as j → i = j
  dj : ∀ i s, φ[i]? = some s → s.isC = true → ∀ c ∈ xs, c.1 ≠ as i
  xn : (xs.map (·.1)).Nodup
  ow : ∀ i d, φ[i]? = some (.ow d) → as i ∉ bs
  bw : ∀ i d, φ[i]? = some (.bw d) → as i = ε.bo i
  xc : ∀ i c f, φ[i]? = some (.xc c f) → as i = ε.a ∧ c = ε.cls ∧ (f = none → ε.dd = none) ∧ (∀ fs, f = some fs → ∃ p, ε.dd = some p ∧ (p, .xdc fs) ∈ xs)
def GetsM (K : PySem.W.Frag) (bs : List Addr) (G H : Hp) (cs : Cs) (Q : VK) (E : XK) : Rs → Prop
  | .ok .pl d => ∀ v G2 H2, Nx G H G2 H2 → Rep K G2 v d → Q v H2
  | .ok .nw d => ∀ p G2 H2, Nx G H G2 H2 → H p = none → G2 p = none → Cell K G2 H2 p d → frzOk d = true → Q (.ref p) H2
  | .ok .ow d => ∀ a G2 H2, Nx G H G2 H2 → (a, d) ∈ cs → a ∉ bs → Q (.ref a) H2
  | .ok .bw d => ∀ a G2 H2, Nx G H G2 H2 → (a, d) ∈ cs → Q (.ref a) H2
  | .ex c fs => ∀ dd G2 H2, Nx G H G2 H2 → Xr K G2 H2 dd fs → Xn H G2 [] dd → E c dd H2
def EvM (K : PySem.W.Frag) (W : WX) (bs : List Addr) (te : TE) (ρ : Ro) (cs : Cs) (r : Rs) : Prop := ∀ G H σ, Wl K G H cs → Env K G σ ρ → ∀ Q : VK, GetsM K bs G H cs Q (WE W σ) r → te σ H Q
def EF (K : PySem.W.Frag) (W : WX) (bs : List Addr) (ε : Xe) (te : TE) (F : FE) : Prop := ∀ as xs φ r, XO ε bs as φ xs → F φ = some r → EvM K W bs te (roOf as 0 φ) (csOf as 0 φ ++ xs) r
def EvTM (K : PySem.W.Frag) (W : WX) (bs : List Addr) (tt : TT) (ρ : Ro) (cs : Cs) : Rs → Prop
  | .ok _ (.bl b) => EvT K tt ρ cs b
  | .ok _ _ => False
  | .ex c f => ∀ G H σ, Wl K G H cs → Env K G σ ρ → ∀ Q, GetsM K bs G H cs (fun _ _ => True) (WE W σ) (.ex c f) → tt σ H Q
def TF (K : PySem.W.Frag) (W : WX) (bs : List Addr) (ε : Xe) (tt : TT) (F : FE) : Prop := ∀ as xs φ r, XO ε bs as φ xs → F φ = some r → EvTM K W bs tt (roOf as 0 φ) (csOf as 0 φ ++ xs) r
/-- arguments -/
inductive As where
  | ok (vs : List (Kd × D))
  | ex (c : Value) (fs : Option (List (Str × D)))
abbrev FA := Fs → Option As
section
variable {K : PySem.W.Frag} {G G0 G1 G2 G3 H H0 H1 H2 H3 : Hp} {ρ ρ1 : Ro} {cs : Cs} {ta tb te tx : TE} {tt tu : TT} {d d' e x y z : D} {W : WX} {bs : List Addr} {ε : Xe} {t u : TS}
theorem getsM_step {Q : VK} {E : XK} {r : Rs} (n : Nx G H G2 H2) (q : GetsM K bs G H cs Q E r) : GetsM K bs G2 H2 cs Q E r := by
  cases r with
  | ok k d =>
    cases k with
    | pl => exact fun v G3 H3 n3 r => q v G3 H3 (n.trans n3) r
    | nw => exact fun p G3 H3 n3 hp gp c f => q p G3 H3 (n.trans n3) (Evl.fresh_back n.h hp) gp c f
    | ow => exact fun a G3 H3 n3 hc hb => q a G3 H3 (n.trans n3) hc hb
    | bw => exact fun a G3 H3 n3 hc => q a G3 H3 (n.trans n3) hc
  | ex c fs => exact fun dd G3 H3 n3 x xn => q dd G3 H3 (n.trans n3) x fun p hp => ⟨Evl.fresh_back n.h (xn p hp).1, (xn p hp).2.1, (xn p hp).2.2⟩
theorem getsM_exQ {Q Q' : VK} {E : XK} {c : Value} {f : Option (List (Str × D))} {cs' : Cs} (q : GetsM K bs G H cs Q E (.ex c f)) : GetsM K bs G H cs' Q' E (.ex c f) := q
/-- a new cell becomes data -/
theorem cell_rep {p : Addr} (n : Nx G H G2 H2) (hp : H p = none) (gp : G2 p = none) (c : Cell K G2 H2 p d) (f : frzOk d = true) : ∃ G3, Nx G H G3 H2 ∧ Rep K G3 (.ref p) d := by
  obtain ⟨o, ho⟩ := c.some
  refine ⟨upd G2 p o, n.take hp ho gp, ?_⟩
  have gx : Ex G2 (upd G2 p o) := Ex.new gp
  cases d with
  | lst ds => obtain ⟨vs, h1, h2⟩ := c; cases ho.symm.trans h1; exact .lst upd_same (h2.mono gx)
  | obj C fs => obtain ⟨dx, vs, h1, h2⟩ := c; cases ho.symm.trans h1; exact .obj upd_same (h2.mono gx)
  | dik ds => obtain ⟨vs, h1, k, h2⟩ := c; cases ho.symm.trans h1; exact .dik upd_same k (h2.mono gx)
  | dit ds => obtain ⟨vs, h1, k, h2⟩ := c; cases ho.symm.trans h1; exact .dit upd_same k (h2.mono gx)
  | dix w ds => obtain ⟨xs, us, h1, k, h2, h3⟩ := c; cases ho.symm.trans h1; exact .dix upd_same k (h2.mono gx) (h3.mono gx)
  | xdc fs => cases f
  | sit w fs => cases f
  | _ => exact c.elim
theorem EvM.rd {k : Kd} (h : EvM K W bs te ρ cs (.ok k d)) : EvR K te ρ cs d := fun G H σ w e Q q => h G H σ w e Q (by
  cases k with
  | pl => exact fun v G2 H2 n r => q v G2 H2 n (.inl r)
  | nw =>
    intro p G2 H2 n hp gp c f
    obtain ⟨G3, n3, r3⟩ := cell_rep n hp gp c f
    exact q _ G3 H2 n3 (.inl r3)
  | ow => exact fun a G2 H2 n hc _ => q _ G2 H2 n (.inr ⟨a, rfl, hc⟩)
  | bw => exact fun a G2 H2 n hc => q _ G2 H2 n (.inr ⟨a, rfl, hc⟩))
/-- data now: no cell that stays a cell -/
def Kd.fz : Kd → Bool
  | .pl => true
  | .nw => true
  | _ => false
theorem EvM.ev {k : Kd} (h : EvM K W bs te ρ cs (.ok k d)) (hk : k.fz = true) : Ev K te ρ cs d := fun G H σ w e Q q => h G H σ w e Q (by
  cases k with
  | pl => exact q
  | nw =>
    intro p G2 H2 n hp gp c f
    obtain ⟨G3, n3, r3⟩ := cell_rep n hp gp c f
    exact q _ G3 H2 n3 r3
  | _ => cases hk)
theorem Ev.m (h : Ev K te ρ cs d) : EvM K W bs te ρ cs (.ok .pl d) := fun G H σ w e Q q => h G H σ w e Q q
theorem EvN.m {ds : List D} (h : EvN K te ρ cs ds) : EvM K W bs te ρ cs (.ok .nw (.lst ds)) := fun G H σ w e Q q => h G H σ w e Q fun p vs G2 H2 n hp gp h2 r => q p G2 H2 n hp gp ⟨vs, h2, r⟩ rfl
theorem EvD.m (h : EvD K te ρ cs d) (hf : frzOk d = true) : EvM K W bs te ρ cs (.ok .nw d) := fun G H σ w e Q q => h G H σ w e Q fun p G2 H2 n hp gp c => q p G2 H2 n hp gp c hf
/-! ### the combinators of expressions -/
def rb (m : Option Rs) (k : Kd → D → Option Rs) : Option Rs := match m with
  | none => none
  | some (.ex c f) => some (.ex c f)
  | some (.ok kd d) => k kd d
@[simp] theorem rb_none {k : Kd → D → Option Rs} : rb none k = none := rfl
@[simp] theorem rb_ex {k : Kd → D → Option Rs} {c : Value} {f : Option (List (Str × D))} : rb (some (.ex c f)) k = some (.ex c f) := rfl
@[simp] theorem rb_ok {k : Kd → D → Option Rs} {kd : Kd} {d : D} : rb (some (.ok kd d)) k = k kd d := rfl
theorem rb_some {m : Option Rs} {k : Kd → D → Option Rs} {r : Rs} (h : rb m k = some r) : (∃ c f, m = some (.ex c f) ∧ r = .ex c f) ∨ ∃ kd d, m = some (.ok kd d) ∧ k kd d = some r := by
  cases m with
  | none => cases h
  | some s =>
    cases s with
    | ok kd d => exact .inr ⟨kd, d, rfl, h⟩
    | ex c f => cases h; exact .inl ⟨c, f, rfl, rfl⟩
def fVar (i : Nat) : FE := fun φ => match φ[i]? with
  | some (.pl d) => some (.ok .pl d)
  | some (.ow d) => some (.ok .ow d)
  | some (.bw d) => some (.ok .bw d)
  | _ => none
def fC (v : V) : FE := fun _ => some (.ok .pl (sc v))
theorem ef_var {i : Nat} : EF K W bs ε (tVar i) (fVar i) := fun as xs φ r xo h => by
  unfold fVar at h
  split at h
  · rename_i d hd
    cases h
    refine (ev_var ?_).m
    rw [roOf_get, hd]; rfl
  · rename_i d hd
    cases h
    intro G H σ w e Q q
    have hr : (roOf as 0 φ)[i]? = some (some (.any (.ref (as i)))) := by rw [roOf_get, hd, Nat.zero_add]; rfl
    obtain ⟨v, h1, h2⟩ := e.at_ i _ hr
    cases h2
    exact ⟨_, h1, q _ G H (Nx.refl w.sub) (List.mem_append_left _ (mem_csOf.mpr ⟨i, d, .inl hd, by rw [Nat.zero_add]⟩)) (xo.ow i d hd)⟩
  · rename_i d hd
    cases h
    intro G H σ w e Q q
    have hr : (roOf as 0 φ)[i]? = some (some (.any (.ref (as i)))) := by rw [roOf_get, hd, Nat.zero_add]; rfl
    obtain ⟨v, h1, h2⟩ := e.at_ i _ hr
    cases h2
    exact ⟨_, h1, q _ G H (Nx.refl w.sub) (List.mem_append_left _ (mem_csOf.mpr ⟨i, d, .inr hd, by rw [Nat.zero_add]⟩))⟩
  · cases h
theorem ef_c {v : V} : EF K W bs ε (tC v) (fC v) := fun as xs φ r xo h => by
  cases h
  exact ev_c.m
/-! operators -/
def OpF (K : PySem.W.Frag) (rr : R2) (f : D → D → Option (Kd × D)) : Prop := ∀ cs x y k z, f x y = some (k, z) → (k = .pl ∧ OpD K rr cs x y z) ∨ (k = .nw ∧ ∃ zs, z = .lst zs ∧ OpN K rr cs x y zs)
def fOp (f : D → D → Option (Kd × D)) (a b : FE) : FE := fun φ => rb (a φ) fun _ x => rb (b φ) fun _ y => (f x y).map fun p => .ok p.1 p.2
theorem ef_op {rr : R2} {f : D → D → Option (Kd × D)} {A B : FE} (hf : OpF K rr f) (ha : EF K W bs ε ta A) (hb : EF K W bs ε tb B) : EF K W bs ε (tOp rr ta tb) (fOp f A B) := fun as xs φ r xo h => by
  rcases rb_some h with ⟨c, g, e, rfl⟩ | ⟨kd, x, e, h⟩
  · exact fun G H σ w en Q q => ha as xs φ _ xo e G H σ w en _ q
  have hx := (ha as xs φ _ xo e).rd
  rcases rb_some h with ⟨c, g, e2, rfl⟩ | ⟨kd2, y, e2, h⟩
  · exact fun G H σ w en Q q => hx G H σ w en _ fun v G2 H2 n rv => hb as xs φ _ xo e2 G2 H2 σ (w.step n) (en.mono n.g) _ (getsM_step n q)
  have hy := (hb as xs φ _ xo e2).rd
  cases hz : f x y with
  | none => rw [hz] at h; cases h
  | some p =>
    obtain ⟨k, z⟩ := p
    rw [hz] at h
    cases h
    rcases hf (csOf as 0 φ ++ xs) x y k z hz with ⟨rfl, ho⟩ | ⟨rfl, zs, rfl, ho⟩
    · exact (ev_op hx hy ho).m
    · exact (en_op hx hy ho).m
end
end Lv

namespace Lv
open PySem L2
open Evl (Ex)
/-! ### operators -/
def addF : D → D → Option (Kd × D)
  | .int i, .int j => some (.pl, .int (i + j))
  | .str s, .str t => if s.length + t.length ≤ 100000 then some (.pl, .str (s ++ t)) else none
  | .tup xs, .tup ys => if xs.length + ys.length ≤ 100000 then some (.pl, .tup (xs ++ ys)) else none
  | .lst xs, .lst ys => if xs.length + ys.length ≤ 100000 then some (.nw, .lst (xs ++ ys)) else none
  | _, _ => none
def iiF (g : Int → Int → D) : D → D → Option (Kd × D)
  | .int i, .int j => some (.pl, g i j)
  | _, _ => none
abbrev subF := iiF fun i j => .int (i - j)
abbrev ltF := iiF fun i j => .bl (decide (i < j))
abbrev leF := iiF fun i j => .bl (decide (i ≤ j))
abbrev gtF := iiF fun i j => .bl (decide (j < i))
abbrev geF := iiF fun i j => .bl (decide (j ≤ i))
def mulF : D → D → Option (Kd × D)
  | .int i, .int j => if (-2 ^ 64 < i ∧ i < 2 ^ 64) ∨ (-2 ^ 64 < j ∧ j < 2 ^ 64) then some (.pl, .int (i * j)) else none
  | _, _ => none
def divF : D → D → Option (Kd × D)
  | .int i, .int j => if 0 < j ∧ j < 1073741824 then some (.pl, .int (i / j)) else none
  | _, _ => none
def modF : D → D → Option (Kd × D)
  | .int i, .int j => if 0 < j then some (.pl, .int (i % j)) else none
  | _, _ => none
def powF : D → D → Option (Kd × D)
  | .int i, .int j => if 0 ≤ j ∧ j ≤ 1000000 ∧ i.natAbs < 2 ^ 64 then some (.pl, .int (i ^ j.toNat)) else none
  | _, _ => none
def eqB : D → D → Option Bool
  | .int i, .int j => some (decide (i = j))
  | .str i, .str j => some (decide (i = j))
  | .bl i, .bl j => some (decide (i = j))
  | x, y => if ok 20 x = true ∧ ok 20 y = true then some (eqD x y) else none
def eqF (x y : D) : Option (Kd × D) := (eqB x y).map fun b => (.pl, .bl b)
def neF (x y : D) : Option (Kd × D) := (eqB x y).map fun b => (.pl, .bl (!b))
def inB (x : D) : D → Option Bool
  | .lst ys => if ok 20 x = true ∧ okL 20 ys = true then some (inD x ys) else none
  | .tup ys => if ok 20 x = true ∧ okL 20 ys = true then some (inD x ys) else none
  | .str s => match x with
    | .str ⟨⟨[c]⟩⟩ => some (decide (c ∈ s.cps.toList))
    | _ => none
  | _ => none
def inF (x y : D) : Option (Kd × D) := (inB x y).map fun b => (.pl, .bl b)
def ninF (x y : D) : Option (Kd × D) := (inB x y).map fun b => (.pl, .bl (!b))
def isF (x y : D) : Option (Kd × D) := match y with
  | .non => if isAny x = false then some (.pl, .bl (isN x)) else none
  | _ => none
def isnF (x y : D) : Option (Kd × D) := match y with
  | .non => if isAny x = false then some (.pl, .bl (!isN x)) else none
  | _ => none
def ixF : D → D → Option (Kd × D)
  | .lst ds, .int i => (atI ds i).map fun z => (.pl, z)
  | .tup ds, .int i => (atI ds i).map fun z => (.pl, z)
  | .scr ns, .int i => (atI ns i).map fun z => (.pl, .int z)
  | .str s, .int i => if s.length ≤ 100000 then (atI s.cps.toList i).map fun c => (.pl, .str ⟨#[c]⟩) else none
  | _, _ => none
section
variable {K : PySem.W.Frag} {G G0 G1 G2 G3 H H0 H1 H2 H3 : Hp} {ρ ρ1 : Ro} {cs : Cs} {ta tb te tx : TE} {tt tu : TT} {d d' e x y z : D} {W : WX} {bs : List Addr} {ε : Xe} {t u : TS} {A B C : FE}
theorem ofl (h : some (Kd.pl, z) = some (k, d)) {rr : R2} (ho : OpD K rr cs x y z) : (k = .pl ∧ OpD K rr cs x y d) ∨ (k = .nw ∧ ∃ zs, d = .lst zs ∧ OpN K rr cs x y zs) := by
  cases h
  exact .inl ⟨rfl, ho⟩
theorem of_add : OpF K (uAdd K) addF := fun cs x y k z h => by
  unfold addF at h
  split at h
  · exact ofl h opd_add
  · split at h
    · exact ofl h (opd_addS (by assumption))
    · cases h
  · split at h
    · exact ofl h (opd_addT (by assumption))
    · cases h
  · split at h
    · cases h; exact .inr ⟨rfl, _, rfl, opn_addL (by assumption)⟩
    · cases h
  · cases h
theorem of_ii {g : Int → Int → V} {g' : Int → Int → D} (hg : ∀ i j, sc (g i j) = g' i j) : OpF K (rI0 g) (iiF g') := fun cs x y k z h => by
  unfold iiF at h
  split at h
  · exact ofl h (hg _ _ ▸ opd_I0)
  · cases h
theorem of_sub : OpF K uSub subF := of_ii fun _ _ => rfl
theorem of_lt : OpF K uLt ltF := of_ii fun _ _ => rfl
theorem of_le : OpF K uLe leF := of_ii fun _ _ => rfl
theorem of_gt : OpF K uGt gtF := of_ii fun _ _ => rfl
theorem of_ge : OpF K uGe geF := of_ii fun _ _ => rfl
theorem of_mul : OpF K uMul mulF := fun cs x y k z h => by
  unfold mulF at h
  split at h
  · split at h
    · exact ofl h (opd_mul (by assumption))
    · cases h
  · cases h
theorem of_div : OpF K uDiv divF := fun cs x y k z h => by
  unfold divF at h
  split at h
  · split at h
    · exact ofl h (opd_div (by assumption))
    · cases h
  · cases h
theorem of_mod : OpF K uMod modF := fun cs x y k z h => by
  unfold modF at h
  split at h
  · split at h
    · exact ofl h (opd_mod (by assumption))
    · cases h
  · cases h
theorem of_pow : OpF K uPow powF := fun cs x y k z h => by
  unfold powF at h
  split at h
  · split at h
    · exact ofl h (opd_pow (by assumption))
    · cases h
  · cases h
theorem eqB_ok {b : Bool} (h : eqB x y = some b) : OpD K (uEq K) cs x y (.bl b) ∧ OpD K (uNe K) cs x y (.bl (!b)) := by
  unfold eqB at h
  split at h
  · cases h; exact ⟨opd_eqI, opd_neI⟩
  · cases h; exact ⟨opd_eqS, opd_neS⟩
  · cases h; exact ⟨opd_eqB, opd_neB⟩
  · split at h
    · rename_i hh
      cases h
      exact ⟨opd_eqU (n := 20) (by decide) hh.1 hh.2, opd_neU (n := 20) (by decide) hh.1 hh.2⟩
    · cases h
theorem of_eq : OpF K (uEq K) eqF := fun cs x y k z h => by
  unfold eqF at h
  cases hb : eqB x y with
  | none => rw [hb] at h; cases h
  | some b => rw [hb] at h; exact ofl h (eqB_ok hb).1
theorem of_ne : OpF K (uNe K) neF := fun cs x y k z h => by
  unfold neF at h
  cases hb : eqB x y with
  | none => rw [hb] at h; cases h
  | some b => rw [hb] at h; exact ofl h (eqB_ok hb).2
theorem inB_ok {b : Bool} (h : inB x y = some b) : OpD K (uIn K) cs x y (.bl b) ∧ OpD K (uNin K) cs x y (.bl (!b)) := by
  unfold inB at h
  split at h
  · split at h
    · rename_i hh
      cases h
      exact ⟨opd_inL (n := 20) (by decide) hh.1 hh.2, opd_ninL (n := 20) (by decide) hh.1 hh.2⟩
    · cases h
  · split at h
    · rename_i hh
      cases h
      exact ⟨opd_inT (n := 20) (by decide) hh.1 hh.2, opd_ninT (n := 20) (by decide) hh.1 hh.2⟩
    · cases h
  · split at h
    · cases h; exact ⟨opd_inS, opd_ninS⟩
    · cases h
  · cases h
theorem of_in : OpF K (uIn K) inF := fun cs x y k z h => by
  unfold inF at h
  cases hb : inB x y with
  | none => rw [hb] at h; cases h
  | some b => rw [hb] at h; exact ofl h (inB_ok hb).1
theorem of_nin : OpF K (uNin K) ninF := fun cs x y k z h => by
  unfold ninF at h
  cases hb : inB x y with
  | none => rw [hb] at h; cases h
  | some b => rw [hb] at h; exact ofl h (inB_ok hb).2
theorem of_is : OpF K uIs isF := fun cs x y k z h => by
  unfold isF at h
  split at h
  · split at h
    · exact ofl h (opd_is (by assumption))
    · cases h
  · cases h
theorem of_isn : OpF K uIsNot isnF := fun cs x y k z h => by
  unfold isnF at h
  split at h
  · split at h
    · exact ofl h (opd_isnot (by assumption))
    · cases h
  · cases h
theorem of_ix : OpF K (rIx K) ixF := fun cs x y k z h => by
  unfold ixF at h
  split at h
  · rename_i ds i
    cases hz : atI ds i with
    | none => rw [hz] at h; cases h
    | some w => rw [hz] at h; exact ofl h (opd_ixL hz)
  · rename_i ds i
    cases hz : atI ds i with
    | none => rw [hz] at h; cases h
    | some w => rw [hz] at h; exact ofl h (opd_ixT hz)
  · rename_i ds i
    cases hz : atI ds i with
    | none => rw [hz] at h; cases h
    | some w => rw [hz] at h; exact ofl h (opd_ixScr hz)
  · rename_i s i
    split at h
    · cases hz : atI s.cps.toList i with
      | none => rw [hz] at h; cases h
      | some w => rw [hz] at h; exact ofl h (opd_ixS (by assumption) hz)
    · cases h
  · cases h
/-! ### chains, unary, tests -/
def fChain (f g : D → D → Option (Kd × D)) (a b c : FE) : FE := fun φ => rb (a φ) fun _ x => rb (b φ) fun _ y => match f x y with
  | some (.pl, .bl true) => rb (c φ) fun _ z => match g y z with
    | some (.pl, .bl b) => some (.ok .pl (.bl b))
    | _ => none
  | some (.pl, .bl false) => some (.ok .pl (.bl false))
  | _ => none
theorem ef_chain {rr r' : R2} {tc : TE} {f g : D → D → Option (Kd × D)} (hf : OpF K rr f) (hg : OpF K r' g) (ha : EF K W bs ε ta A) (hb : EF K W bs ε tb B) (hc : EF K W bs ε tc C) : EF K W bs ε (tChain rr r' ta tb tc) (fChain f g A B C) := fun as xs φ r xo h => by
  rcases rb_some h with ⟨c, g, e, rfl⟩ | ⟨kd, x, e, h⟩
  · exact fun G H σ w en Q q => ha as xs φ _ xo e G H σ w en _ q
  have hx := (ha as xs φ _ xo e).rd
  rcases rb_some h with ⟨c, g, e2, rfl⟩ | ⟨kd2, y, e2, h⟩
  · exact fun G H σ w en Q q => hx G H σ w en _ fun v G2 H2 n rv => hb as xs φ _ xo e2 G2 H2 σ (w.step n) (en.mono n.g) _ (getsM_step n q)
  have hy := (hb as xs φ _ xo e2).rd
  split at h
  · rename_i hz
    rcases hf (csOf as 0 φ ++ xs) x y _ _ hz with ⟨_, ho⟩ | ⟨z, _⟩
    · rcases rb_some h with ⟨c, g, e3, rfl⟩ | ⟨kd3, z, e3, h⟩
      · exact fun G H σ w en Q q => hx G H σ w en _ fun v G2 H2 n rv => hy G2 H2 σ (w.step n) (en.mono n.g) _ fun u G3 H3 n3 ru => ho G3 H3 v u ((w.step n).step n3) (rv.mono n3) ru _ fun z' G4 H4 n4 rz => by
          cases rz
          exact ⟨true, rfl, hc as xs φ _ xo e3 G4 H4 σ (((w.step n).step n3).step n4) (((en.mono n.g).mono n3.g).mono n4.g) _ (getsM_step ((n.trans n3).trans n4) q)⟩
      · split at h
        · rename_i b hw
          cases h
          rcases hg (csOf as 0 φ ++ xs) y z _ _ hw with ⟨_, ho2⟩ | ⟨z, _⟩
          · have := ev_chain hx hy ho (fun _ => (hc as xs φ _ xo e3).rd) (fun _ => ho2)
            exact this.m
          · cases z
        · cases h
    · cases z
  · rename_i hz
    cases h
    rcases hf (csOf as 0 φ ++ xs) x y _ _ hz with ⟨_, ho⟩ | ⟨z, _⟩
    · have := ev_chain (r' := r') (tc := tc) (b := false) (w' := .non) hx hy ho (fun z => by cases z) (fun z => by cases z)
      exact this.m
    · cases z
  · cases h
def fNeg (a : FE) : FE := fun φ => rb (a φ) fun _ d => match d with
  | .int i => some (.ok .pl (.int (-i)))
  | _ => none
theorem evm_int {i : Int} {k : Kd} (h : EvM K W bs te ρ cs (.ok k (.int i))) : Ev K te ρ cs (.int i) := fun G H σ w e Q q => h.rd G H σ w e Q fun v G2 H2 n r => by
  cases r.int (w.step n)
  exact q _ G2 H2 n (.int i)
theorem evm_bl {i : Bool} {k : Kd} (h : EvM K W bs te ρ cs (.ok k (.bl i))) : Ev K te ρ cs (.bl i) := fun G H σ w e Q q => h.rd G H σ w e Q fun v G2 H2 n r => by
  cases r.bl (w.step n)
  exact q _ G2 H2 n (.bl i)
theorem evm_str {i : Str} {k : Kd} (h : EvM K W bs te ρ cs (.ok k (.str i))) : Ev K te ρ cs (.str i) := fun G H σ w e Q q => h.rd G H σ w e Q fun v G2 H2 n r => by
  cases r.str (w.step n)
  exact q _ G2 H2 n (.str i)
theorem ef_neg (ha : EF K W bs ε ta A) : EF K W bs ε (tUn (rU fun i => .int (-i)) ta) (fNeg A) := fun as xs φ r xo h => by
  rcases rb_some h with ⟨c, g, e, rfl⟩ | ⟨kd, x, e, h⟩
  · exact fun G H σ w en Q q => ha as xs φ _ xo e G H σ w en _ q
  split at h
  · cases h
    exact (ev_neg (evm_int (ha as xs φ _ xo e))).m
  · cases h
def bl1 (d : D) : Option Rs := match d with
  | .bl b => some (.ok .pl (.bl b))
  | _ => none
@[simp] theorem bl1_bl {b : Bool} : bl1 (.bl b) = some (.ok .pl (.bl b)) := rfl
theorem bl1_some {r : Rs} (h : bl1 d = some r) : ∃ b, d = .bl b ∧ r = .ok .pl (.bl b) := by
  unfold bl1 at h
  split at h
  · cases h; exact ⟨_, rfl, rfl⟩
  · cases h
def fBl (a : FE) : FE := fun φ => rb (a φ) fun _ d => bl1 d
theorem tf_test (ha : EF K W bs ε ta A) : TF K W bs ε (tTest ta) (fBl A) := fun as xs φ r xo h => by
  rcases rb_some h with ⟨c, g, e, rfl⟩ | ⟨kd, x, e, h⟩
  · exact fun G H σ w en Q q => ha as xs φ _ xo e G H σ w en _ q
  obtain ⟨b, rfl, rfl⟩ := bl1_some h
  exact et_test (evm_bl (ha as xs φ _ xo e))
theorem tf_B (ha : EF K W bs ε ta A) : TF K W bs ε (tB ta) (fBl A) := fun as xs φ r xo h => by
  rcases rb_some h with ⟨c, g, e, rfl⟩ | ⟨kd, x, e, h⟩
  · exact fun G H σ w en Q q => ha as xs φ _ xo e G H σ w en _ q
  obtain ⟨b, rfl, rfl⟩ := bl1_some h
  exact et_B (evm_bl (ha as xs φ _ xo e))
def truB : D → Option Bool
  | .non => some false
  | .bl b => some b
  | .int i => some (i != 0)
  | .lst ds => some (!ds.isEmpty)
  | .tup ds => some (!ds.isEmpty)
  | .str s => if s.length ≤ 100000 then some ((s.length : Int) != 0) else none
  | _ => none
def fTru (a : FE) : FE := fun φ => rb (a φ) fun _ d => (truB d).map fun b => .ok .pl (.bl b)
theorem et_tru {b : Bool} (h : EvR K te ρ cs d) (hb : truB d = some b) : EvT K (uTru K te) ρ cs b := fun G H σ w e Q q => h G H σ w e _ fun v G2 H2 n r => by
  unfold truB at hb
  split at hb
  · cases hb; cases r.non (w.step n); exact ⟨false, rfl, q G2 H2 n⟩
  · cases hb; cases r.bl (w.step n); exact ⟨_, rfl, q G2 H2 n⟩
  · cases hb; cases r.int (w.step n); exact ⟨_, rfl, q G2 H2 n⟩
  · rename_i ds
    cases hb
    obtain ⟨a, vs, rfl, ha, ra⟩ := r.seqL (w.step n)
    refine ⟨!ds.isEmpty, .inl ⟨vs, .inl (.inl ha), ?_⟩, q G2 H2 n⟩
    have := ra.length
    cases ds <;> cases vs <;> simp_all
  · rename_i ds
    cases hb
    obtain ⟨a, vs, rfl, ha, ra⟩ := r.seqT (w.step n)
    refine ⟨!ds.isEmpty, .inr (.inl ⟨vs, ha, ?_⟩), q G2 H2 n⟩
    have := ra.length
    cases ds <;> cases vs <;> simp_all
  · split at hb
    · cases hb; cases r.str (w.step n); exact ⟨_, ⟨sz (by assumption), rfl⟩, q G2 H2 n⟩
    · cases hb
  · cases hb
theorem tf_tru (ha : EF K W bs ε ta A) : TF K W bs ε (uTru K ta) (fTru A) := fun as xs φ r xo h => by
  rcases rb_some h with ⟨c, g, e, rfl⟩ | ⟨kd, x, e, h⟩
  · exact fun G H σ w en Q q => ha as xs φ _ xo e G H σ w en _ q
  cases hb : truB x with
  | none => rw [hb] at h; cases h
  | some b =>
    rw [hb] at h
    cases h
    exact et_tru (ha as xs φ _ xo e).rd hb
def fNot (a : FE) : FE := fun φ => rb (a φ) fun _ d => match d with
  | .bl b => some (.ok .pl (.bl (!b)))
  | _ => none
def fAnd (a b : FE) : FE := fun φ => rb (a φ) fun _ d => match d with
  | .bl true => rb (b φ) fun _ d => bl1 d
  | .bl false => some (.ok .pl (.bl false))
  | _ => none
def fOr (a b : FE) : FE := fun φ => rb (a φ) fun _ d => match d with
  | .bl false => rb (b φ) fun _ d => bl1 d
  | .bl true => some (.ok .pl (.bl true))
  | _ => none
def fYes : FE := fun _ => some (.ok .pl (.bl true))
theorem tf_yes : TF K W bs ε tYes fYes := fun as xs φ r xo h => by cases h; exact et_yes
theorem tf_not (ha : TF K W bs ε tt A) : TF K W bs ε (tNot tt) (fNot A) := fun as xs φ r xo h => by
  rcases rb_some h with ⟨c, g, e, rfl⟩ | ⟨kd, x, e, h⟩
  · exact fun G H σ w en Q q => ha as xs φ _ xo e G H σ w en _ q
  split at h
  · cases h; exact et_not (ha as xs φ _ xo e)
  · cases h
theorem tf_and (ha : TF K W bs ε tt A) (hb : TF K W bs ε tu B) : TF K W bs ε (tAnd tt tu) (fAnd A B) := fun as xs φ r xo h => by
  rcases rb_some h with ⟨c, g, e, rfl⟩ | ⟨kd, x, e, h⟩
  · exact fun G H σ w en Q q => ha as xs φ _ xo e G H σ w en _ q
  split at h
  · have h1 := ha as xs φ _ xo e
    rcases rb_some h with ⟨c, g, e2, rfl⟩ | ⟨kd2, y, e2, h⟩
    · exact fun G H σ w en Q q => h1 G H σ w en _ fun G2 H2 n => hb as xs φ _ xo e2 G2 H2 σ (w.step n) (en.mono n.g) _ (getsM_step n q)
    · obtain ⟨b, rfl, rfl⟩ := bl1_some h
      exact et_and (a := true) h1 fun _ => hb as xs φ _ xo e2
  · cases h
    exact et_and (a := false) (b := false) (ha as xs φ _ xo e) fun z => by cases z
  · cases h
theorem tf_or (ha : TF K W bs ε tt A) (hb : TF K W bs ε tu B) : TF K W bs ε (tOr tt tu) (fOr A B) := fun as xs φ r xo h => by
  rcases rb_some h with ⟨c, g, e, rfl⟩ | ⟨kd, x, e, h⟩
  · exact fun G H σ w en Q q => ha as xs φ _ xo e G H σ w en _ q
  split at h
  · have h1 := ha as xs φ _ xo e
    rcases rb_some h with ⟨c, g, e2, rfl⟩ | ⟨kd2, y, e2, h⟩
    · exact fun G H σ w en Q q => h1 G H σ w en _ fun G2 H2 n => hb as xs φ _ xo e2 G2 H2 σ (w.step n) (en.mono n.g) _ (getsM_step n q)
    · obtain ⟨b, rfl, rfl⟩ := bl1_some h
      exact et_or (a := false) h1 fun _ => hb as xs φ _ xo e2
  · cases h
    exact et_or (a := true) (b := true) (ha as xs φ _ xo e) fun z => by cases z
  · cases h
theorem ef_notV (ha : EF K W bs ε ta A) : EF K W bs ε (tNotV ta) (fNot A) := fun as xs φ r xo h => by
  rcases rb_some h with ⟨c, g, e, rfl⟩ | ⟨kd, x, e, h⟩
  · exact fun G H σ w en Q q => ha as xs φ _ xo e G H σ w en _ q
  split at h
  · cases h; exact (ev_notV (evm_bl (ha as xs φ _ xo e))).m
  · cases h
theorem ef_andV (ha : EF K W bs ε ta A) (hb : EF K W bs ε tb B) : EF K W bs ε (tAndV ta tb) (fAnd A B) := fun as xs φ r xo h => by
  rcases rb_some h with ⟨c, g, e, rfl⟩ | ⟨kd, x, e, h⟩
  · exact fun G H σ w en Q q => ha as xs φ _ xo e G H σ w en _ q
  split at h
  · have h1 := evm_bl (ha as xs φ _ xo e)
    rcases rb_some h with ⟨c, g, e2, rfl⟩ | ⟨kd2, y, e2, h⟩
    · exact fun G H σ w en Q q => h1 G H σ w en _ fun v G2 H2 n rv => by
        cases rv
        exact ⟨true, rfl, hb as xs φ _ xo e2 G2 H2 σ (w.step n) (en.mono n.g) _ (getsM_step n q)⟩
    · obtain ⟨b, rfl, rfl⟩ := bl1_some h
      exact (ev_andV (a := true) h1 fun _ => evm_bl (hb as xs φ _ xo e2)).m
  · cases h
    exact (ev_andV (a := false) (b := false) (evm_bl (ha as xs φ _ xo e)) fun z => by cases z).m
  · cases h
theorem ef_orV (ha : EF K W bs ε ta A) (hb : EF K W bs ε tb B) : EF K W bs ε (tOrV ta tb) (fOr A B) := fun as xs φ r xo h => by
  rcases rb_some h with ⟨c, g, e, rfl⟩ | ⟨kd, x, e, h⟩
  · exact fun G H σ w en Q q => ha as xs φ _ xo e G H σ w en _ q
  split at h
  · have h1 := evm_bl (ha as xs φ _ xo e)
    rcases rb_some h with ⟨c, g, e2, rfl⟩ | ⟨kd2, y, e2, h⟩
    · exact fun G H σ w en Q q => h1 G H σ w en _ fun v G2 H2 n rv => by
        cases rv
        exact ⟨false, rfl, hb as xs φ _ xo e2 G2 H2 σ (w.step n) (en.mono n.g) _ (getsM_step n q)⟩
    · obtain ⟨b, rfl, rfl⟩ := bl1_some h
      exact (ev_orV (a := false) h1 fun _ => evm_bl (hb as xs φ _ xo e2)).m
  · cases h
    exact (ev_orV (a := true) (b := true) (evm_bl (ha as xs φ _ xo e)) fun z => by cases z).m
  · cases h
def fIfE (c a b : FE) : FE := fun φ => rb (c φ) fun _ d => match d with
  | .bl true => a φ
  | .bl false => b φ
  | _ => none
theorem ef_if (hc : TF K W bs ε tt C) (ha : EF K W bs ε ta A) (hb : EF K W bs ε tb B) : EF K W bs ε (tIf tt ta tb) (fIfE C A B) := fun as xs φ r xo h => by
  rcases rb_some h with ⟨c, g, e, rfl⟩ | ⟨kd, x, e, h⟩
  · exact fun G H σ w en Q q => hc as xs φ _ xo e G H σ w en _ q
  split at h
  · exact fun G H σ w en Q q => (hc as xs φ _ xo e : EvT K tt _ _ true) G H σ w en _ fun G2 H2 n => ha as xs φ _ xo h G2 H2 σ (w.step n) (en.mono n.g) _ (getsM_step n q)
  · exact fun G H σ w en Q q => (hc as xs φ _ xo e : EvT K tt _ _ false) G H σ w en _ fun G2 H2 n => hb as xs φ _ xo h G2 H2 σ (w.step n) (en.mono n.g) _ (getsM_step n q)
  · cases h
/-- one of two readings -/
def tAlt (a b : TE) : TE := fun σ H Q => a σ H Q ∨ b σ H Q
def fAlt (a b : FE) : FE := fun φ => match a φ with
  | some r => some r
  | none => b φ
theorem ef_alt (ha : EF K W bs ε ta A) (hb : EF K W bs ε tb B) : EF K W bs ε (tAlt ta tb) (fAlt A B) := fun as xs φ r xo h => by
  unfold fAlt at h
  split at h
  · rename_i e
    cases h
    exact fun G H σ w en Q q => .inl (ha as xs φ _ xo e G H σ w en Q q)
  · exact fun G H σ w en Q q => .inr (hb as xs φ _ xo h G H σ w en Q q)
end
theorem pe_alt {X : Cx} {e : Expr} {t u : TE} (h : PE X e t) (h' : PE X e u) : PE X e (tAlt t u) := ⟨fun pins s σ H Q I q => by
  rcases q with q | q
  · exact h.run pins s σ H Q I q
  · exact h'.run pins s σ H Q I q⟩
end Lv

namespace Lv
open PySem L2
open Evl (Ex)
open Classical
inductive RepK (K : PySem.W.Frag) (G : Hp) (cs : Cs) : List V → List (Kd × D) → Prop
  | nil : RepK K G cs [] []
  | cons {v : V} {vs : List V} {k : Kd} {d : D} {ks : List (Kd × D)} : (k.fz = true → Rep K G v d) → RepC K G cs v d → RepK K G cs vs ks → RepK K G cs (v :: vs) ((k, d) :: ks)
def EvAM (K : PySem.W.Frag) (W : WX) (bs : List Addr) (ta : TA) (ρ : Ro) (cs : Cs) : As → Prop
  | .ok ks => ∀ G H σ, Wl K G H cs → Env K G σ ρ → ∀ Q : List V → Hp → Prop, (∀ vs G2 H2, Nx G H G2 H2 → RepK K G2 cs vs ks → Q vs H2) → ta σ H Q
  | .ex c f => ∀ G H σ, Wl K G H cs → Env K G σ ρ → ∀ Q, GetsM K bs G H cs (fun _ _ => True) (WE W σ) (.ex c f) → ta σ H Q
def AF (K : PySem.W.Frag) (W : WX) (bs : List Addr) (ε : Xe) (ta : TA) (F : FA) : Prop := ∀ as xs φ r, XO ε bs as φ xs → F φ = some r → EvAM K W bs ta (roOf as 0 φ) (csOf as 0 φ ++ xs) r
def fNil : FA := fun _ => some (.ok [])
def fCons (a : FE) (t : FA) : FA := fun φ => match a φ with
  | none => none
  | some (.ex c f) => some (.ex c f)
  | some (.ok k d) => match t φ with
    | none => none
    | some (.ex c f) => some (.ex c f)
    | some (.ok ks) => some (.ok ((k, d) :: ks))
/-- with the arguments -/
def ab (m : Option As) (k : List (Kd × D) → Option Rs) : Option Rs := match m with
  | none => none
  | some (.ex c f) => some (.ex c f)
  | some (.ok ks) => k ks
@[simp] theorem ab_ok {ks : List (Kd × D)} {k : List (Kd × D) → Option Rs} : ab (some (.ok ks)) k = k ks := rfl
@[simp] theorem ab_ex {c : Value} {f : Option (List (Str × D))} {k : List (Kd × D) → Option Rs} : ab (some (.ex c f)) k = some (.ex c f) := rfl
theorem ab_some {m : Option As} {k : List (Kd × D) → Option Rs} {r : Rs} (h : ab m k = some r) : (∃ c f, m = some (.ex c f) ∧ r = .ex c f) ∨ ∃ ks, m = some (.ok ks) ∧ k ks = some r := by
  cases m with
  | none => cases h
  | some s =>
    cases s with
    | ok ks => exact .inr ⟨ks, rfl, h⟩
    | ex c f => cases h; exact .inl ⟨c, f, rfl, rfl⟩
section
variable {K : PySem.W.Frag} {G G0 G1 G2 G3 H H0 H1 H2 H3 : Hp} {ρ ρ1 : Ro} {cs : Cs} {ta tb te tx : TE} {tt tu : TT} {d d' e x y z : D} {W : WX} {bs : List Addr} {ε : Xe} {t u : TS} {A B C : FE} {tr : TA} {T : FA}
theorem RepK.mono (n : Nx G H G2 H2) : ∀ {vs : List V} {ks : List (Kd × D)}, RepK K G cs vs ks → RepK K G2 cs vs ks
  | _, _, .nil => .nil
  | _, _, .cons h r s => .cons (fun z => (h z).mono n.g) (r.mono n) (RepK.mono n s)
theorem RepK.cl : ∀ {vs : List V} {ks : List (Kd × D)}, RepK K G cs vs ks → RepCL K G cs vs (ks.map Prod.snd)
  | _, _, .nil => .nil
  | _, _, .cons _ r s => .cons r (RepK.cl s)
theorem RepK.rl : ∀ {vs : List V} {ks : List (Kd × D)}, RepK K G cs vs ks → (ks.all fun p => p.1.fz) = true → RepL K G vs (ks.map Prod.snd)
  | _, _, .nil, _ => .nil
  | _, _, .cons h _ s, z => by
    rw [List.all_cons, Bool.and_eq_true_iff] at z
    exact .cons (h z.1) (RepK.rl s z.2)
theorem EvM.k {k : Kd} (h : EvM K W bs te ρ cs (.ok k d)) : ∀ G H σ, Wl K G H cs → Env K G σ ρ → ∀ Q : VK, (∀ v G2 H2, Nx G H G2 H2 → (k.fz = true → Rep K G2 v d) → RepC K G2 cs v d → Q v H2) → te σ H Q := fun G H σ w e Q q => by
  cases hk : k.fz with
  | true => exact (h.ev hk) G H σ w e Q fun v G2 H2 n r => q v G2 H2 n (fun _ => r) (.inl r)
  | false => exact h.rd G H σ w e Q fun v G2 H2 n r => q v G2 H2 n (fun z => by rw [hk] at z; cases z) r
theorem af_nil : AF K W bs ε tNil fNil := fun as xs φ r xo h => by
  cases h
  exact fun G H σ w e Q q => q [] G H (Nx.refl w.sub) .nil
theorem af_cons (ha : EF K W bs ε ta A) (ht : AF K W bs ε tr T) : AF K W bs ε (tCons ta tr) (fCons A T) := fun as xs φ r xo h => by
  unfold fCons at h
  split at h
  · cases h
  · rename_i e
    cases h
    exact fun G H σ w en Q q => ha as xs φ _ xo e G H σ w en _ q
  · rename_i k d e
    have h1 := (ha as xs φ _ xo e).k
    split at h
    · cases h
    · rename_i e2
      cases h
      exact fun G H σ w en Q q => h1 G H σ w en _ fun v G2 H2 n _ _ => ht as xs φ _ xo e2 G2 H2 σ (w.step n) (en.mono n.g) _ (getsM_step n q)
    · rename_i ks e2
      cases h
      exact fun G H σ w en Q q => h1 G H σ w en _ fun v G2 H2 n r0 rc => (ht as xs φ _ xo e2 : EvAM K W bs tr _ _ (.ok ks)) G2 H2 σ (w.step n) (en.mono n.g) _ fun vs G3 H3 n3 rk => q (v :: vs) G3 H3 (n.trans n3) (.cons (fun z => (r0 z).mono n3.g) (rc.mono n3) rk)
theorem EvAM.ar {ks : List (Kd × D)} (h : EvAM K W bs tr ρ cs (.ok ks)) : EvAR K tr ρ cs (ks.map Prod.snd) := fun G H σ w e Q q => h G H σ w e Q fun vs G2 H2 n rk => q vs G2 H2 n rk.cl
theorem EvAM.a {ks : List (Kd × D)} (h : EvAM K W bs tr ρ cs (.ok ks)) (hf : (ks.all fun p => p.1.fz) = true) : EvA K tr ρ cs (ks.map Prod.snd) := fun G H σ w e Q q => h G H σ w e Q fun vs G2 H2 n rk => q vs G2 H2 n (rk.rl hf)
/-! ### displays -/
def fTup (t : FA) : FE := fun φ => ab (t φ) fun ks => if (ks.all fun p => p.1.fz) = true ∧ ks.length ≤ 100000 then some (.ok .pl (.tup (ks.map Prod.snd))) else none
def fLst (t : FA) : FE := fun φ => ab (t φ) fun ks => if (ks.all fun p => p.1.fz) = true ∧ ks.length ≤ 100000 then some (.ok .nw (.lst (ks.map Prod.snd))) else none
theorem ef_tup (ht : AF K W bs ε tr T) : EF K W bs ε (tTup tr) (fTup T) := fun as xs φ r xo h => by
  rcases ab_some h with ⟨c, g, e, rfl⟩ | ⟨ks, e, h⟩
  · exact fun G H σ w en Q q => ht as xs φ _ xo e G H σ w en _ q
  split at h
  · rename_i hh
    cases h
    exact (ev_tup (EvAM.a (ht as xs φ _ xo e) hh.1) (by rw [List.length_map]; exact hh.2)).m
  · cases h
theorem ef_lst (ht : AF K W bs ε tr T) : EF K W bs ε (tLst tr) (fLst T) := fun as xs φ r xo h => by
  rcases ab_some h with ⟨c, g, e, rfl⟩ | ⟨ks, e, h⟩
  · exact fun G H σ w en Q q => ht as xs φ _ xo e G H σ w en _ q
  split at h
  · rename_i hh
    cases h
    exact (en_lst (EvAM.a (ht as xs φ _ xo e) hh.1) (by rw [List.length_map]; exact hh.2)).m
  · cases h
/-! ### built-in calls -/
def CbF (K : PySem.W.Frag) (rc : List V → Hp → VK → Prop) (f : List D → Option (Kd × D)) : Prop := ∀ cs ds k z, f ds = some (k, z) → (k = .pl ∧ CallD K rc cs ds z) ∨ (k = .nw ∧ ∃ zs, z = .lst zs ∧ CallN K rc cs ds zs)
def fCB (f : List D → Option (Kd × D)) (t : FA) : FE := fun φ => ab (t φ) fun ks => (f (ks.map Prod.snd)).map fun p => .ok p.1 p.2
theorem ef_cb {rc : List V → Hp → VK → Prop} {f : List D → Option (Kd × D)} (hf : CbF K rc f) (ht : AF K W bs ε tr T) : EF K W bs ε (tCB rc tr) (fCB f T) := fun as xs φ r xo h => by
  rcases ab_some h with ⟨c, g, e, rfl⟩ | ⟨ks, e, h⟩
  · exact fun G H σ w en Q q => ht as xs φ _ xo e G H σ w en _ q
  cases hz : f (ks.map Prod.snd) with
  | none => rw [hz] at h; cases h
  | some p =>
    obtain ⟨k, z⟩ := p
    rw [hz] at h
    cases h
    rcases hf (csOf as 0 φ ++ xs) _ k z hz with ⟨rfl, ho⟩ | ⟨rfl, zs, rfl, ho⟩
    · exact (ev_cb (EvAM.ar (ht as xs φ _ xo e)) ho).m
    · exact (en_cb (EvAM.ar (ht as xs φ _ xo e)) ho).m
theorem cfl {rc : List V → Hp → VK → Prop} {k : Kd} {ds : List D} (h : some (Kd.pl, z) = some (k, d)) (ho : CallD K rc cs ds z) : (k = .pl ∧ CallD K rc cs ds d) ∨ (k = .nw ∧ ∃ zs, d = .lst zs ∧ CallN K rc cs ds zs) := by
  cases h
  exact .inl ⟨rfl, ho⟩
def lenF : List D → Option (Kd × D)
  | [.lst ds] => some (.pl, .int ds.length)
  | [.tup ds] => some (.pl, .int ds.length)
  | [.scr ns] => some (.pl, .int ns.length)
  | [.str s] => if s.length ≤ 100000 then some (.pl, .int s.length) else none
  | _ => none
theorem cf_len : CbF K (uLen K) lenF := fun cs ds k z h => by
  unfold lenF at h
  split at h
  · exact cfl h cd_lenL
  · exact cfl h cd_lenT
  · exact cfl h cd_lenScr
  · split at h
    · exact cfl h (cd_lenS (by assumption))
    · cases h
  · cases h
def listF : List D → Option (Kd × D)
  | [.lst ds] => some (.nw, .lst ds)
  | [.tup ds] => some (.nw, .lst ds)
  | _ => none
theorem cf_list : CbF K (uList K) listF := fun cs ds k z h => by
  unfold listF at h
  split at h
  · cases h; exact .inr ⟨rfl, _, rfl, cn_listL⟩
  · cases h; exact .inr ⟨rfl, _, rfl, cn_listT⟩
  · cases h
def tupleF : List D → Option (Kd × D)
  | [.lst ds] => some (.pl, .tup ds)
  | [.tup ds] => some (.pl, .tup ds)
  | _ => none
theorem cf_tuple : CbF K (uTuple K) tupleF := fun cs ds k z h => by
  unfold tupleF at h
  split at h
  · exact cfl h cd_tupL
  · exact cfl h cd_tupT
  · cases h
def intF : List D → Option (Kd × D)
  | [.int i] => some (.pl, .int i)
  | _ => none
theorem cf_int : CbF K uInt intF := fun cs ds k z h => by
  unfold intF at h
  split at h
  · exact cfl h cd_int
  · cases h
/-- the bools of a list of them -/
def blsF : List D → Option (List Bool)
  | [] => some []
  | .bl b :: ds => (blsF ds).map fun bs => b :: bs
  | _ => none
theorem blsF_some : ∀ {ds : List D} {bs : List Bool}, blsF ds = some bs → ds = bs.map D.bl
  | [], bs, h => by cases h; rfl
  | .bl b :: ds, bs, h => by
    rw [blsF] at h
    cases hb : blsF ds with
    | none => rw [hb] at h; cases h
    | some bs' =>
      rw [hb] at h
      cases h
      rw [blsF_some hb]
      rfl
theorem blsF_map : ∀ {bs : List Bool}, blsF (bs.map D.bl) = some bs
  | [] => rfl
  | b :: bs => by rw [List.map_cons, blsF, blsF_map]; rfl
def anyF : List D → Option (Kd × D)
  | [.lst ds] => (blsF ds).map fun bs => (.pl, .bl (bs.any id))
  | _ => none
def allF : List D → Option (Kd × D)
  | [.lst ds] => (blsF ds).map fun bs => (.pl, .bl (bs.all id))
  | _ => none
theorem repL_bls : ∀ {bs : List Bool} {vs : List V}, RepL K G vs (bs.map D.bl) → vs = bs.map V.bl
  | [], _, .nil => rfl
  | b :: bs, _, .cons h r => by
    cases h
    rw [repL_bls r]
    rfl
theorem cf_any : CbF K (rAny K) anyF := fun cs ds k z h => by
  unfold anyF at h
  split at h
  · rename_i ds
    cases hb : blsF ds with
    | none => rw [hb] at h; cases h
    | some b =>
      rw [hb] at h
      refine cfl h fun G H vs w r Q q => ?_
      cases r with
      | cons r0 r1 =>
        cases r1
        obtain ⟨a, us, rfl, ha, ra⟩ := r0.seqL w
        rw [blsF_some hb] at ra
        rw [repL_bls ra] at ha
        exact ⟨a, b, rfl, .inl (.inl ha), q _ G H (Nx.refl w.sub) (.bl _)⟩
  · cases h
theorem cf_all : CbF K (rAll K) allF := fun cs ds k z h => by
  unfold allF at h
  split at h
  · rename_i ds
    cases hb : blsF ds with
    | none => rw [hb] at h; cases h
    | some b =>
      rw [hb] at h
      refine cfl h fun G H vs w r Q q => ?_
      cases r with
      | cons r0 r1 =>
        cases r1
        obtain ⟨a, us, rfl, ha, ra⟩ := r0.seqL w
        rw [blsF_some hb] at ra
        rw [repL_bls ra] at ha
        exact ⟨a, b, rfl, .inl (.inl ha), q _ G H (Nx.refl w.sub) (.bl _)⟩
  · cases h
noncomputable def isiF (K : PySem.W.Frag) : List D → Option (Kd × D)
  | [.obj C fs, .any (.ref B)] => if Ic K C then (PySem.W.kitOne K (.ref C) (.ref B)).map fun b => (.pl, .bl b) else none
  | [d, .any (.ty m)] => match tyD d with
    | some n => (kitB n m).map fun b => (.pl, .bl b)
    | none => none
  | _ => none
theorem cf_isi : CbF K (rIsi K) (isiF K) := fun cs ds k z h => by
  unfold isiF at h
  split at h
  · rename_i C fs B
    split at h
    · rename_i hi
      cases hb : PySem.W.kitOne K (.ref C) (.ref B) with
      | none => rw [hb] at h; cases h
      | some b => rw [hb] at h; exact cfl h (cd_isiO hi hb)
    · cases h
  · rename_i _ d m
    split at h
    · rename_i n hn
      cases hb : kitB n m with
      | none => rw [hb] at h; cases h
      | some b => rw [hb] at h; exact cfl h (cd_isi hn hb)
    · cases h
  · cases h
/-! ### slices -/
abbrev FO := Fs → Option (Option Int)
def OF (K : PySem.W.Frag) (W : WX) (bs : List Addr) (ε : Xe) (to : TO) (F : FO) : Prop := ∀ as xs φ o, XO ε bs as φ xs → F φ = some o → EvO K to (roOf as 0 φ) (csOf as 0 φ ++ xs) o
def oNo : FO := fun _ => some none
def oAt (a : FE) : FO := fun φ => match a φ with
  | some (.ok _ (.int i)) => some (some i)
  | _ => none
theorem of_no : OF K W bs ε tNoPart oNo := fun as xs φ o xo h => by cases h; exact eo_none
theorem of_at (ha : EF K W bs ε ta A) : OF K W bs ε (tPart ta) (oAt A) := fun as xs φ o xo h => by
  unfold oAt at h
  split at h
  · rename_i e
    cases h
    exact eo_some (evm_int (ha as xs φ _ xo e))
  · cases h
def fSl (a : FE) (l u : FO) : FE := fun φ => rb (a φ) fun _ d => match l φ, u φ with
  | some lo, some hi => match d with
    | .lst ds => some (.ok .nw (.lst (cutD ds lo hi)))
    | .tup ds => some (.ok .pl (.tup (cutD ds lo hi)))
    | .str z => if z.length ≤ 100000 then some (.ok .pl (.str (cutS z lo hi))) else none
    | _ => none
  | _, _ => none
theorem ev_slS {tl th : TO} {z : Str} {lo hi : Option Int} (h : EvR K te ρ cs (.str z)) (h1 : EvO K tl ρ cs lo) (h2 : EvO K th ρ cs hi) (hz : z.length ≤ 100000) : Ev K (tSl (uSl K) te tl th) ρ cs (.str (cutS z lo hi)) := fun G H σ w e Q q =>
  h G H σ w e _ fun v G2 H2 n r => h1 G2 H2 σ (w.step n) (e.mono n.g) _ fun G3 H3 n2 => h2 G3 H3 σ ((w.step n).step n2) ((e.mono n.g).mono n2.g) _ fun G4 H4 n3 => by
    cases r.str (w.step n)
    exact .inr (.inr ⟨z, rfl, sz hz, q _ G4 H4 ((n.trans n2).trans n3) (.str _)⟩)
theorem ef_sl {tl th : TO} {L U : FO} (ha : EF K W bs ε ta A) (hl : OF K W bs ε tl L) (hu : OF K W bs ε th U) : EF K W bs ε (tSl (uSl K) ta tl th) (fSl A L U) := fun as xs φ r xo h => by
  rcases rb_some h with ⟨c, g, e, rfl⟩ | ⟨kd, x, e, h⟩
  · exact fun G H σ w en Q q => ha as xs φ _ xo e G H σ w en _ q
  split at h
  · rename_i lo hi e1 e2
    split at h
    · cases h
      exact (en_slL (ha as xs φ _ xo e).rd (hl as xs φ _ xo e1) (hu as xs φ _ xo e2)).m
    · cases h
      exact (ev_slT (ha as xs φ _ xo e).rd (hl as xs φ _ xo e1) (hu as xs φ _ xo e2)).m
    · split at h
      · cases h
        exact (ev_slS (ha as xs φ _ xo e).rd (hl as xs φ _ xo e1) (hu as xs φ _ xo e2) (by assumption)).m
      · cases h
    · cases h
  · cases h
/-! ### fields -/
noncomputable def fFld (K : PySem.W.Frag) (a : FE) (f : Str) : FE := fun φ => rb (a φ) fun _ d => match d with
  | .obj C fs => if Cls K C ∧ NoAttr K C f then (fs.lookup f).map fun z => .ok .pl z else none
  | _ => none
theorem ef_fld {f : Str} (ha : EF K W bs ε ta A) : EF K W bs ε (tFld K ta f) (fFld K A f) := fun as xs φ r xo h => by
  rcases rb_some h with ⟨c, g, e, rfl⟩ | ⟨kd, x, e, h⟩
  · exact fun G H σ w en Q q => ha as xs φ _ xo e G H σ w en _ q
  split at h
  · rename_i C fs
    split at h
    · rename_i hh
      cases hz : fs.lookup f with
      | none => rw [hz] at h; cases h
      | some z =>
        rw [hz] at h
        cases h
        exact (ev_fld (ha as xs φ _ xo e).rd hh.1 hh.2 hz).m
    · cases h
  · cases h
/-! ### calls of defs -/
def outR : Out → Rs
  | .ret d => .ok .pl d
  | .new ds => .ok .nw (.lst ds)
  | .exc c f => .ex c f
def isLst : D → Bool
  | .lst _ => true
  | _ => false
def lcs (cs : Cs) : Cs := cs.filter fun c => isLst c.2
theorem lcs_l : lstC (lcs cs) := fun c hc => by
  have h := (List.mem_filter.mp hc).2
  cases hd : c.2 with
  | lst ds => exact ⟨ds, rfl⟩
  | _ => rw [hd] at h; cases h
theorem Wl.lcs (w : Wl K G H cs) : Wl K G H (lcs cs) := ⟨w.sub, fun c hc => w.cell c (List.mem_filter.mp hc).1, (List.Sublist.map (fun c : Addr × D => c.1) List.filter_sublist).nodup w.nd⟩
theorem RepK.lcs : ∀ {vs : List V} {ks : List (Kd × D)}, RepK K G cs vs ks → (ks.all fun p => p.1.fz || isLst p.2) = true → RepCL K G (lcs cs) vs (ks.map Prod.snd)
  | _, _, .nil, _ => .nil
  | _, _, .cons (k := k) (d := d) h r s, z => by
    rw [List.all_cons, Bool.and_eq_true_iff] at z
    refine .cons ?_ (RepK.lcs s z.2)
    cases hk : k.fz with
    | true => exact .inl (h hk)
    | false =>
      have hd : isLst d = true := by simpa [hk] using z.1
      rcases r with r | ⟨a, e, hc⟩
      · exact .inl r
      · exact .inr ⟨a, e, List.mem_filter.mpr ⟨hc, hd⟩⟩
theorem getsM_out {Q : VK} {E : XK} {o : Out} (q : GetsM K bs G H cs Q E (outR o)) : Gets K G H Q E o := by
  cases o with
  | ret d => exact q
  | new ds => exact fun p us G2 H2 n hp gp h2 r => q p G2 H2 n hp gp ⟨us, h2, r⟩ rfl
  | exc c f => exact q
/-- all arguments are data, or: none of what is given holds a list of theirs -/
def argOk (ks : List (Kd × D)) (o : Out) : Bool := (ks.all fun p => p.1.fz) || ((ks.all fun p => p.1.fz || isLst p.2) && nlO o)
theorem call_k {sp : Sp} {ks : List (Kd × D)} {o : Out} {vs : List V} {Q : VK} {E : XK} (w : Wl K G H cs) (rk : RepK K G cs vs ks) (hs : SpX K sp (ks.map Prod.snd) o) (ho : argOk ks o = true) (q : Gets K G H Q E o) : sp vs H Q E := by
  unfold argOk at ho
  rw [Bool.or_eq_true_iff] at ho
  rcases ho with ho | ho
  · exact hs G H vs w.sub (rk.rl ho) Q E q
  · rw [Bool.and_eq_true_iff] at ho
    exact hs _ H vs (vw_sub w.lcs) (vw_repL w.lcs lcs_l (rk.lcs ho.1)) Q E (gets_unv w.lcs lcs_l ho.2 q)
def callF (A : List D → Option Out) (ks : List (Kd × D)) : Option Rs := match A (ks.map Prod.snd) with
  | none => none
  | some o => if argOk ks o = true then some (outR o) else none
theorem callF_some {A : List D → Option Out} {ks : List (Kd × D)} {r : Rs} (h : callF A ks = some r) : ∃ o, A (ks.map Prod.snd) = some o ∧ argOk ks o = true ∧ r = outR o := by
  unfold callF at h
  split at h
  · cases h
  · rename_i o e
    split at h
    · cases h; exact ⟨o, e, by assumption, rfl⟩
    · cases h
abbrev relF (A : List D → Option Out) : List D → Out → Prop := fun ds o => A ds = some o
def fCall (A : List D → Option Out) (t : FA) : FE := fun φ => ab (t φ) (callF A)
theorem ef_callS {n : Nat} {F : List D → Option Out} (hn : ∀ ds o, F ds = some o → ds.length = n) (ht : AF K W bs ε tr T) : EF K W bs ε (tCallS (spO K n (relF F)) (WE W) tr) (fCall F T) := fun as xs φ r xo h => by
  rcases ab_some h with ⟨c, g, e, rfl⟩ | ⟨ks, e, h⟩
  · exact fun G H σ w en Q q => ht as xs φ _ xo e G H σ w en _ q
  obtain ⟨o, h1, h2, rfl⟩ := callF_some h
  exact fun G H σ w en Q q => (ht as xs φ _ xo e : EvAM K W bs tr _ _ (.ok ks)) G H σ w en _ fun vs G2 H2 n2 rk => call_k (w.step n2) rk (spO_x h1 (hn _ _ h1)) h2 (gets_step n2 (getsM_out q))
/-- a call where no exception may leave -/
def noEx (m : Option Rs) : Option Rs := match m with
  | some (.ok k d) => some (.ok k d)
  | _ => none
theorem noEx_some {m : Option Rs} {r : Rs} (h : noEx m = some r) : ∃ k d, m = some (.ok k d) ∧ r = .ok k d := by
  unfold noEx at h
  split at h
  · cases h; exact ⟨_, _, rfl, rfl⟩
  · cases h
def fCall0 (A : List D → Option Out) (t : FA) : FE := fun φ => ab (t φ) fun ks => noEx (callF A ks)
theorem getsM_outE {Q : VK} {E E' : XK} {o : Out} {k : Kd} (he : outR o = .ok k d) (q : GetsM K bs G H cs Q E (.ok k d)) : Gets K G H Q E' o := by
  cases o with
  | ret d => cases he; exact q
  | new ds => cases he; exact fun p us G2 H2 n hp gp h2 r => q p G2 H2 n hp gp ⟨us, h2, r⟩ rfl
  | exc c f => cases he
theorem ef_call {n : Nat} {F : List D → Option Out} {E : XK} (hn : ∀ ds o, F ds = some o → ds.length = n) (ht : AF K W bs ε tr T) : EF K W bs ε (tCall (spO K n (relF F)) [] E tr) (fCall0 F T) := fun as xs φ r xo h => by
  rcases ab_some h with ⟨c, g, e, rfl⟩ | ⟨ks, e, h⟩
  · exact fun G H σ w en Q q => ht as xs φ _ xo e G H σ w en _ q
  obtain ⟨k, d, h0, rfl⟩ := noEx_some h
  obtain ⟨o, h1, h2, h3⟩ := callF_some h0
  exact fun G H σ w en Q q => (ht as xs φ _ xo e : EvAM K W bs tr _ _ (.ok ks)) G H σ w en _ fun vs G2 H2 n2 rk => by
    rw [List.append_nil]
    exact call_k (w.step n2) rk (spO_x h1 (hn _ _ h1)) h2 (gets_step n2 (getsM_outE h3.symm q))
/-- o.m(..) -/
noncomputable def fMeth (C : Addr) (m : Str) (A : List D → Option Out) (a : FE) (t : FA) : FE := fun φ => rb (a φ) fun k d => match d with
  | .obj C' fs => if C' = C ∧ fs.lookup m = none ∧ k.fz = true then ab (t φ) fun ks => callF A ((.pl, .obj C fs) :: ks) else none
  | _ => none
theorem ef_methW {C : Addr} {m : Str} {n : Nat} {F : List D → Option Out} (hn : ∀ ds o, F ds = some o → ds.length = n) (ha : EF K W bs ε ta A) (ht : AF K W bs ε tr T) : EF K W bs ε (tMethW C m (spO K n (relF F)) (WE W) ta tr) (fMeth C m F A T) := fun as xs φ r xo h => by
  rcases rb_some h with ⟨c, g, e, rfl⟩ | ⟨kd, x, e, h⟩
  · exact fun G H σ w en Q q => ha as xs φ _ xo e G H σ w en _ q
  split at h
  · rename_i C' fs
    split at h
    · rename_i hh
      obtain ⟨rfl, hm, hk⟩ := hh
      have ho := (ha as xs φ _ xo e).ev hk
      rcases ab_some h with ⟨c, g, e2, rfl⟩ | ⟨ks, e2, h⟩
      · exact fun G H σ w en Q q => ho G H σ w en _ fun v G2 H2 n r => by
          cases r with
          | obj hg rf => exact ⟨_, _, _, rfl, n.s _ _ hg, rf.lookup_none hm, ht as xs φ _ xo e2 G2 H2 σ (w.step n) (en.mono n.g) _ (getsM_step n q)⟩
      · obtain ⟨o, h1, h2, rfl⟩ := callF_some h
        exact fun G H σ w en Q q => ho G H σ w en _ fun v G2 H2 n2 r => by
          cases r with
          | obj hg rf =>
            refine ⟨_, _, _, rfl, n2.s _ _ hg, rf.lookup_none hm, (ht as xs φ _ xo e2 : EvAM K W bs tr _ _ (.ok ks)) G2 H2 σ (w.step n2) (en.mono n2.g) _ fun vs G3 H3 n3 rk => ?_⟩
            exact call_k ((w.step n2).step n3) (.cons (k := .pl) (fun _ => .obj (n3.g _ _ hg) (rf.mono n3.g)) (.inl (.obj (n3.g _ _ hg) (rf.mono n3.g))) rk) (spO_x h1 (hn _ _ h1)) h2 (gets_step (n2.trans n3) (getsM_out q))
    · cases h
  · cases h
noncomputable def fMeth0 (C : Addr) (m : Str) (A : List D → Option Out) (a : FE) (t : FA) : FE := fun φ => noEx (fMeth C m A a t φ)
theorem ef_meth {C : Addr} {m : Str} {n : Nat} {F : List D → Option Out} {E : XK} (hn : ∀ ds o, F ds = some o → ds.length = n) (ha : EF K W bs ε ta A) (ht : AF K W bs ε tr T) : EF K W bs ε (tMeth C m (spO K n (relF F)) [] E ta tr) (fMeth0 C m F A T) := fun as xs φ r xo h => by
  obtain ⟨k, d, h0, rfl⟩ := noEx_some h
  clear h
  rcases rb_some h0 with ⟨c, g, e, z⟩ | ⟨kd, x, e, h⟩
  · cases z
  split at h
  · rename_i C' fs
    split at h
    · rename_i hh
      obtain ⟨rfl, hm, hk⟩ := hh
      have ho := (ha as xs φ _ xo e).ev hk
      rcases ab_some h with ⟨c, g, e2, z⟩ | ⟨ks, e2, h⟩
      · cases z
      · obtain ⟨o, h1, h2, h3⟩ := callF_some h
        exact fun G H σ w en Q q => ho G H σ w en _ fun v G2 H2 n2 r => by
          cases r with
          | obj hg rf =>
            refine ⟨_, _, _, rfl, n2.s _ _ hg, rf.lookup_none hm, (ht as xs φ _ xo e2 : EvAM K W bs tr _ _ (.ok ks)) G2 H2 σ (w.step n2) (en.mono n2.g) _ fun vs G3 H3 n3 rk => ?_⟩
            rw [List.append_nil]
            exact call_k ((w.step n2).step n3) (.cons (k := .pl) (fun _ => .obj (n3.g _ _ hg) (rf.mono n3.g)) (.inl (.obj (n3.g _ _ hg) (rf.mono n3.g))) rk) (spO_x h1 (hn _ _ h1)) h2 (gets_step (n2.trans n3) (getsM_outE h3.symm q))
    · cases h
  · cases h
/-- C(..) -/
def isObj (C : Addr) : Out → Prop
  | .ret (.obj C' _) => C' = C
  | .exc _ _ => True
  | _ => False
noncomputable def fMake (C : Addr) (A : List D → Option Out) (t : FA) : FE := fun φ => ab (t φ) fun ks => match A (ks.map Prod.snd) with
  | none => none
  | some o => if argOk ks o = true ∧ isObj C o then some (outR o) else none
theorem make_k {n : Nat} {F : List D → Option Out} {C : Addr} {ks : List (Kd × D)} {o : Out} {vs : List V} {Q : VK} {E : XK} (w : Wl K G H cs) (rk : RepK K G cs vs ks) (hs : F (ks.map Prod.snd) = some o) (hn : (ks.map Prod.snd).length = n) (ho : argOk ks o = true) (hi : isObj C o) (q : Gets K G H Q E o)
    (a dx : Addr) (ha : H a = none) (hdx : H dx = none) (hne : dx ≠ a) : spI K C n (relF F) (.ref a :: vs) (upd (upd H dx (.own a)) a (.ins C dx [])) (fun v H2 => v = .non ∧ Q (.ref a) H2) E := by
  unfold argOk at ho
  rw [Bool.or_eq_true_iff] at ho
  rcases ho with ho | ho
  · exact make_ok (sp := fun _ _ _ _ => True) w.sub (rk.rl ho) hn hs (by cases o with | ret d => (cases d <;> exact hi) | new ds => exact hi | exc c f => exact hi) q a dx ha hdx hne
  · rw [Bool.and_eq_true_iff] at ho
    exact make_ok (sp := fun _ _ _ _ => True) (vw_sub w.lcs) (vw_repL w.lcs lcs_l (rk.lcs ho.1)) hn hs (by cases o with | ret d => (cases d <;> exact hi) | new ds => exact hi | exc c f => exact hi) (gets_unv w.lcs lcs_l ho.2 q) a dx ha hdx hne
theorem ef_makeS {C : Addr} {n : Nat} {F : List D → Option Out} (hn : ∀ ds o, F ds = some o → ds.length = n) (ht : AF K W bs ε tr T) : EF K W bs ε (tMakeS C (spI K C n (relF F)) (WE W) tr) (fMake C F T) := fun as xs φ r xo h => by
  rcases ab_some h with ⟨c, g, e, rfl⟩ | ⟨ks, e, h⟩
  · exact fun G H σ w en Q q => ht as xs φ _ xo e G H σ w en _ q
  split at h
  · cases h
  · rename_i o e1
    split at h
    · rename_i hh
      cases h
      exact fun G H σ w en Q q => (ht as xs φ _ xo e : EvAM K W bs tr _ _ (.ok ks)) G H σ w en _ fun vs G2 H2 n2 rk x dx hx hdx hne => make_k (w.step n2) rk e1 (hn _ _ e1) hh.1 hh.2 (gets_step n2 (getsM_out q)) x dx hx hdx hne
    · cases h
noncomputable def fMake0 (C : Addr) (A : List D → Option Out) (t : FA) : FE := fun φ => noEx (fMake C A t φ)
theorem ef_make {C : Addr} {n : Nat} {F : List D → Option Out} {E : XK} (hn : ∀ ds o, F ds = some o → ds.length = n) (ht : AF K W bs ε tr T) : EF K W bs ε (tMake C (spI K C n (relF F)) [] E tr) (fMake0 C F T) := fun as xs φ r xo h => by
  obtain ⟨k, d, h0, rfl⟩ := noEx_some h
  clear h
  rcases ab_some h0 with ⟨c, g, e, z⟩ | ⟨ks, e, h⟩
  · cases z
  split at h
  · cases h
  · rename_i o e1
    split at h
    · rename_i hh
      have h3 : outR o = .ok k d := by injection h
      exact fun G H σ w en Q q => (ht as xs φ _ xo e : EvAM K W bs tr _ _ (.ok ks)) G H σ w en _ fun vs G2 H2 n2 rk x dx hx hdx hne => by
        rw [List.append_nil]
        exact make_k (w.step n2) rk e1 (hn _ _ e1) hh.1 hh.2 (gets_step n2 (getsM_outE h3 q)) x dx hx hdx hne
    · cases h
end
end Lv

/-! F: statements -/
namespace Lv
open PySem L2
open Evl (Ex)
open Classical
def Sl.isX : Sl → Bool
  | .xc _ _ => true
  | _ => false
/-- what holds a cell or an exception in φ' held it in φ -/
structure Sh (φ φ' : Fs) : Prop where
  len : φ'.length = φ.length
  at_ : ∀ (i : Nat) (s : Sl), φ'[i]? = some s → (s.isC = true ∨ s.isX = true) → φ[i]? = some s
section
variable {K : PySem.W.Frag} {G G0 G1 G2 G3 H H0 H1 H2 H3 : Hp} {ρ ρ1 : Ro} {cs xs : Cs} {ta tb te tx : TE} {tt tu : TT} {d d' e x y z : D} {W : WX} {bs : List Addr} {ε : Xe} {t u : TS} {A B C : FE} {tr : TA} {T : FA} {as : Nat → Addr} {φ φ' φ1 φ2 : Fs}
theorem csOf_nd : ∀ {k : Nat} {φ : Fs}, (∀ i j s t, φ[i]? = some s → φ[j]? = some t → s.isC = true → t.isC = true → as (k + i) = as (k + j) → i = j) → ((csOf as k φ).map (·.1)).Nodup
  | k, [], _ => by simp [csOf]
  | k, s :: φ, h => by
    have ih := csOf_nd (k := k + 1) (φ := φ) (fun i j s t h1 h2 h3 h4 h5 => by
      have := h (i + 1) (j + 1) s t (by simpa using h1) (by simpa using h2) h3 h4 (by rw [show k + (i + 1) = k + 1 + i by omega, show k + (j + 1) = k + 1 + j by omega]; exact h5)
      omega)
    have key : s.isC = true → ∀ c ∈ csOf as (k + 1) φ, c.1 ≠ as k := fun hs c hc z => by
      obtain ⟨i, d, hd, rfl⟩ := mem_csOf.mp hc
      rcases hd with hd | hd
      · have := h 0 (i + 1) s _ rfl (by simpa using hd) hs rfl (by rw [show k + (i + 1) = k + 1 + i by omega]; exact z.symm)
        omega
      · have := h 0 (i + 1) s _ rfl (by simpa using hd) hs rfl (by rw [show k + (i + 1) = k + 1 + i by omega]; exact z.symm)
        omega
    have nk : s.isC = true → as k ∉ (csOf as (k + 1) φ).map (·.1) := fun hs hm => by
      obtain ⟨c, h1, h2⟩ := List.mem_map.mp hm
      exact key hs c h1 h2
    rw [csOf]
    cases s with
    | ow d => exact List.nodup_cons.mpr ⟨nk rfl, ih⟩
    | bw d => exact List.nodup_cons.mpr ⟨nk rfl, ih⟩
    | _ => exact ih
theorem csOf_isC {k : Nat} {c : Addr × D} (h : c ∈ csOf as k φ) : ∃ i s, φ[i]? = some s ∧ s.isC = true ∧ c.1 = as (k + i) := by
  obtain ⟨i, d, hd, rfl⟩ := mem_csOf.mp h
  rcases hd with hd | hd
  · exact ⟨i, _, hd, rfl, rfl⟩
  · exact ⟨i, _, hd, rfl, rfl⟩
theorem XO.nd (xo : XO ε bs as φ xs) : ((csOf as 0 φ ++ xs).map (·.1)).Nodup := by
  rw [List.map_append, List.nodup_append]
  refine ⟨csOf_nd (fun i j s t h1 h2 h3 h4 h5 => xo.inj i j s t h1 h2 h3 h4 (by simpa using h5)), xo.xn, fun a ha b hb z => ?_⟩
  obtain ⟨c, hc, rfl⟩ := List.mem_map.mp ha
  obtain ⟨c2, hc2, rfl⟩ := List.mem_map.mp hb
  obtain ⟨i, s, h1, h2, h3⟩ := csOf_isC hc
  exact xo.dj i s h1 h2 c2 hc2 (by rw [← z, h3, Nat.zero_add])
theorem Sh.refl (φ : Fs) : Sh φ φ := ⟨rfl, fun _ _ h _ => h⟩
theorem Sh.trans (h : Sh φ φ1) (h2 : Sh φ1 φ2) : Sh φ φ2 := ⟨h2.len.trans h.len, fun i s a b => h.at_ i s (h2.at_ i s a b) b⟩
theorem sh_set {i : Nat} {s : Sl} (h1 : s.isC = false) (h2 : s.isX = false) : Sh φ (φ.set i s) := ⟨List.length_set, fun j u a b => by
  by_cases hj : i = j
  · subst hj
    by_cases hl : i < φ.length
    · rw [List.getElem?_set_self hl] at a
      cases a
      rcases b with b | b
      · rw [h1] at b; cases b
      · rw [h2] at b; cases b
    · rw [List.getElem?_eq_none (by rw [List.length_set]; omega)] at a
      cases a
  · rw [List.getElem?_set_ne hj] at a
    exact a⟩
theorem XO.sh (xo : XO ε bs as φ xs) (h : Sh φ φ') : XO ε bs as φ' xs := ⟨fun i j s t h1 h2 h3 h4 => xo.inj i j s t (h.at_ i s h1 (.inl h3)) (h.at_ j t h2 (.inl h4)) h3 h4, fun i s h1 h2 => xo.dj i s (h.at_ i s h1 (.inl h2)) h2, xo.xn,
  fun i d h1 => xo.ow i d (h.at_ i _ h1 (.inl rfl)), fun i d h1 => xo.bw i d (h.at_ i _ h1 (.inl rfl)), fun i c f h1 => xo.xc i c f (h.at_ i _ h1 (.inr rfl))⟩
theorem Sh.csm {k : Nat} (h : Sh φ φ') {c : Addr × D} (hc : c ∈ csOf as k φ') : c ∈ csOf as k φ := by
  obtain ⟨i, d, hd, rfl⟩ := mem_csOf.mp hc
  refine mem_csOf.mpr ⟨i, d, ?_, rfl⟩
  rcases hd with hd | hd
  · exact .inl (h.at_ i _ hd (.inl rfl))
  · exact .inr (h.at_ i _ hd (.inl rfl))
theorem roOf_set {k i : Nat} {s : Sl} : ∀ {φ : Fs} {k i : Nat}, roOf as k (φ.set i s) = (roOf as k φ).set i (s.ro (as (k + i)))
  | [], _, _ => rfl
  | _ :: φ, k, 0 => rfl
  | _ :: φ, k, i + 1 => by
    rw [List.set_cons_succ, roOf, roOf, List.set_cons_succ, roOf_set (k := k) (i := i), show k + 1 + i = k + (i + 1) by omega]
/-- state -/
def PN (ε : Xe) (bs : List Addr) (xs : Cs) (φ : Fs) : Ro → Cs → Prop := fun ρ cs => ∃ as, XO ε bs as φ xs ∧ le (roOf as 0 φ) ρ ∧ ∀ c ∈ csOf as 0 φ ++ xs, c ∈ cs
theorem PN.sh (h : Sh φ φ') (le' : ∀ as, le (roOf as 0 φ') (roOf as 0 φ)) (p : PN ε bs xs φ ρ cs) : PN ε bs xs φ' ρ cs := by
  obtain ⟨as, xo, l, m⟩ := p
  refine ⟨as, xo.sh h, ?_, fun c hc => m c ?_⟩
  · exact leT (le' as) l
  · rcases List.mem_append.mp hc with hc | hc
    · exact List.mem_append_left _ (h.csm hc)
    · exact List.mem_append_right _ hc
where
  leT : ∀ {a b c : Ro}, le a b → le b c → le a c
    | [], [], [], _, _ => trivial
    | none :: a, _ :: b, _ :: c, h1, h2 => by
      rename_i x y
      have hb : le b c := by
        cases x with
        | none => exact h2
        | some d => exact h2.2
      exact leT (a := a) (b := b) (c := c) h1 hb
    | some d :: a, x :: b, y :: c, h1, h2 => by
      obtain ⟨rfl, h1⟩ := h1
      exact ⟨h2.1, leT (a := a) (b := b) (c := c) h1 h2.2⟩
    | [], [], _ :: _, _, h => h.elim
    | [], _ :: _, _, h, _ => h.elim
    | none :: _, [], _, h, _ => h.elim
    | some _ :: _, [], _, h, _ => h.elim
    | none :: _, none :: _, [], _, h => h.elim
    | none :: _, some _ :: _, [], _, h => h.elim
    | some _ :: _, none :: _, [], h, _ => by cases h.1
    | some _ :: _, some _ :: _, [], _, h => h.elim
theorem sv_pn {P : Po} (p : PN ε bs xs φ ρ cs) (h : ∀ as, XO ε bs as φ xs → Sv K W bs t (roOf as 0 φ) (csOf as 0 φ ++ xs) P) : Sv K W bs t ρ cs P := by
  obtain ⟨as, xo, l, m⟩ := p
  exact (sv_forget (h as xo) m xo.nd).le l
theorem PN.mk (xo : XO ε bs as φ xs) : PN ε bs xs φ (roOf as 0 φ) (csOf as 0 φ ++ xs) := ⟨as, xo, le.refl _, fun _ h => h⟩
theorem PN.sub (xo : XO ε bs as φ xs) (h : Sh φ φ') : PN ε bs xs φ' (roOf as 0 φ') (csOf as 0 φ ++ xs) := ⟨as, xo.sh h, le.refl _, fun c hc => by
  rcases List.mem_append.mp hc with hc | hc
  · exact List.mem_append_left _ (h.csm hc)
  · exact List.mem_append_right _ hc⟩
end
/-- how a block ends -/
inductive Br where
  | nx (φ : Fs)
  | rt (o : Out) (φ : Fs)
  | bk (φ : Fs)
  | ct (φ : Fs)
  | ex (c : Value) (fs : Option (List (Str × D))) (φ : Fs)
abbrev FS := Fs → Option Br
def RtOk (ε : Xe) (bs : List Addr) (xs : Cs) (o : Out) (φ : Fs) (d : D) (cs : Cs) : Prop := (match o with
  | .ret d' => d = d'
  | .new ds => ∃ a, d = .any (.ref a) ∧ (a, .lst ds) ∈ cs
  | .exc _ _ => False) ∧ ∀ (i : Nat) (d : D), φ[i]? = some (.bw d) → ε.bo i ∈ bs → (ε.bo i, d) ∈ cs
def poR (ε : Xe) (bs : List Addr) (xs : Cs) : Br → Po
  | .nx φ => { nx := PN ε bs xs φ, rt := fun _ _ => False }
  | .rt o φ => { nx := fun _ _ => False, rt := RtOk ε bs xs o φ }
  | .bk φ => { nx := fun _ _ => False, rt := fun _ _ => False, bk := PN ε bs xs φ }
  | .ct φ => { nx := fun _ _ => False, rt := fun _ _ => False, ct := PN ε bs xs φ }
  | .ex c f φ => { nx := fun _ _ => False, rt := fun _ _ => False, ex := fun ρ cs c' f' => c' = c ∧ f' = f ∧ PN ε bs xs φ ρ cs }
/-- the block t does what F says; bo: the places of pinned cells -/
def SF (K : PySem.W.Frag) (W : WX) (bs : List Addr) (ε : Xe) (t : TS) (F : FS) : Prop := ∀ bo xs φ r ρ cs, PN { ε with bo := bo } bs xs φ ρ cs → F φ = some r → Sv K W bs t ρ cs (poR { ε with bo := bo } bs xs r)
structure Po.le (P P' : Po) : Prop where
  nx : ∀ ρ cs, P.nx ρ cs → P'.nx ρ cs
  rt : ∀ d cs, P.rt d cs → P'.rt d cs
  bk : ∀ ρ cs, P.bk ρ cs → P'.bk ρ cs
  ct : ∀ ρ cs, P.ct ρ cs → P'.ct ρ cs
  ex : ∀ ρ cs c f, P.ex ρ cs c f → P'.ex ρ cs c f
section
variable {K : PySem.W.Frag} {G G0 G1 G2 G3 H H0 H1 H2 H3 : Hp} {ρ ρ1 : Ro} {cs xs : Cs} {ta tb te tx : TE} {tt tu : TT} {d d' e x y z : D} {W : WX} {bs : List Addr} {ε : Xe} {t u : TS} {A B C : FE} {tr : TA} {T : FA} {as : Nat → Addr} {φ φ' φ1 φ2 : Fs} {F M N : FS}
theorem Sv.mono {P P' : Po} (h : Sv K W bs t ρ cs P) (l : Po.le P P') : Sv K W bs t ρ cs P' := fun G0 H0 G H σ E r e o => h G0 H0 G H σ E r e
  ⟨fun G H σ ρ cs r e k => o.nx G H σ ρ cs r e (l.nx _ _ k), fun G H v d cs r rv k => o.rt G H v d cs r rv (l.rt _ _ k), fun G H σ ρ cs r e k => o.bk G H σ ρ cs r e (l.bk _ _ k), fun G H σ ρ cs r e k => o.ct G H σ ρ cs r e (l.ct _ _ k), fun G H σ ρ cs c dd fs r e x xn k => o.ex G H σ ρ cs c dd fs r e x xn (l.ex _ _ _ _ k)⟩
/-! ### blocks -/
def fSeq (a b : FS) : FS := fun φ => match a φ with
  | some (.nx φ') => b φ'
  | r => r
theorem sf_seq (ha : SF K W bs ε t M) (hb : SF K W bs ε u N) : SF K W bs ε (tSeq t u) (fSeq M N) := fun bo xs φ r ρ cs p h => by
  unfold fSeq at h
  split at h
  · rename_i φ' e
    exact sv_seq ((ha bo xs φ _ ρ cs p e).mono ⟨fun ρ cs k => hb bo xs φ' r ρ cs k h, fun _ _ k => k.elim, fun _ _ k => k.elim, fun _ _ k => k.elim, fun _ _ _ _ k => k.elim⟩)
  · rename_i hne
    refine sv_seq ((ha bo xs φ _ ρ cs p h).mono ?_)
    cases r with
    | nx φ' => exact absurd h (hne φ')
    | rt o φ' => exact ⟨fun _ _ k => k.elim, fun _ _ k => k, fun _ _ k => k, fun _ _ k => k, fun _ _ _ _ k => k⟩
    | bk φ' => exact ⟨fun _ _ k => k.elim, fun _ _ k => k, fun _ _ k => k, fun _ _ k => k, fun _ _ _ _ k => k⟩
    | ct φ' => exact ⟨fun _ _ k => k.elim, fun _ _ k => k, fun _ _ k => k, fun _ _ k => k, fun _ _ _ _ k => k⟩
    | ex c f φ' => exact ⟨fun _ _ k => k.elim, fun _ _ k => k, fun _ _ k => k, fun _ _ k => k, fun _ _ _ _ k => k⟩
def fNext : FS := fun φ => some (.nx φ)
def fBreak : FS := fun φ => some (.bk φ)
def fCont : FS := fun φ => some (.ct φ)
theorem sf_next : SF K W bs ε tNext fNext := fun bo xs φ r ρ cs p h => by cases h; exact sv_next p
theorem sf_break : SF K W bs ε tBreak fBreak := fun bo xs φ r ρ cs p h => by cases h; exact sv_break p
theorem sf_cont : SF K W bs ε tCont fCont := fun bo xs φ r ρ cs p h => by cases h; exact sv_cont p
/-- the expression of a block: for all places of the pinned cells -/
def EFb (K : PySem.W.Frag) (W : WX) (bs : List Addr) (ε : Xe) (te : TE) (F : FE) : Prop := ∀ bo, EF K W bs { ε with bo := bo } te F
def TFb (K : PySem.W.Frag) (W : WX) (bs : List Addr) (ε : Xe) (tt : TT) (F : FE) : Prop := ∀ bo, TF K W bs { ε with bo := bo } tt F
def AFb (K : PySem.W.Frag) (W : WX) (bs : List Addr) (ε : Xe) (ta : TA) (F : FA) : Prop := ∀ bo, AF K W bs { ε with bo := bo } ta F
def fIf (c : FE) (a b : FS) : FS := fun φ => match c φ with
  | some (.ok _ (.bl true)) => a φ
  | some (.ok _ (.bl false)) => b φ
  | some (.ex c f) => some (.ex c f φ)
  | _ => none
theorem sf_if (hc : TFb K W bs ε tt A) (ha : SF K W bs ε t M) (hb : SF K W bs ε u N) : SF K W bs ε (tIfS tt t u) (fIf A M N) := fun bo xs φ r ρ cs p h => by
  unfold fIf at h
  split at h
  · rename_i e
    exact sv_pn p fun as xo => sv_if (b := true) (hc bo as xs φ _ xo e) (fun _ => ha bo xs φ r _ _ (.mk xo) h) (fun z => by cases z)
  · rename_i e
    exact sv_pn p fun as xo => sv_if (b := false) (hc bo as xs φ _ xo e) (fun z => by cases z) (fun _ => hb bo xs φ r _ _ (.mk xo) h)
  · rename_i c f e
    cases h
    refine sv_pn p fun as xo => fun G0 H0 G H σ E r en o => ?_
    refine (hc bo as xs φ _ xo e) G H σ r.wl en _ fun dd G2 H2 n x xn => ?_
    exact o.ex G2 H2 σ _ _ _ dd f (r.step n) (en.mono n.g) x (fun p hp => ⟨(r.none0 (xn p hp).1).1, (xn p hp).2.1, (r.none0 (xn p hp).1).2.2⟩) ⟨rfl, rfl, .mk xo⟩
  · cases h
/-! ### assignments -/
def fSet (i : Nat) (a : FE) : FS := fun φ => match a φ with
  | some (.ok k d) => if k.fz = true then some (.nx (φ.set i (.pl d))) else none
  | some (.ex c f) => some (.ex c f φ)
  | none => none
theorem sf_set {i : Nat} (ha : EFb K W bs ε te A) : SF K W bs ε (tAsg te (gName i)) (fSet i A) := fun bo xs φ r ρ cs p h => by
  unfold fSet at h
  split at h
  · rename_i k d e
    split at h
    · rename_i hk
      cases h
      refine sv_pn p fun as xo => sv_set ((ha bo as xs φ _ xo e).ev hk) ?_
      have := PN.sub xo (sh_set (φ := φ) (i := i) (s := .pl d) rfl rfl)
      rw [roOf_set (k := 0) (i := i)] at this
      exact this
    · cases h
  · rename_i c f e
    cases h
    exact sv_pn p fun as xo => sv_asgX (ha bo as xs φ _ xo e) ⟨rfl, rfl, .mk xo⟩
  · cases h
/-- a new cell in slot i -/
theorem PN.new {i : Nat} {a : Addr} {bo : Nat → Addr} (xo : XO ε bs as φ xs) (hb : a ∉ bs) (hc : ∀ c ∈ csOf as 0 φ ++ xs, c.1 ≠ a) : PN ε bs xs (φ.set i (.ow d)) ((roOf as 0 φ).set i (some (.any (.ref a)))) ((a, d) :: (csOf as 0 φ ++ xs)) := by
  refine ⟨fun j => if j = i then a else as j, ⟨fun j k s t h1 h2 h3 h4 h5 => ?_, fun j s h1 h2 c hcx => ?_, xo.xn, fun j d' h1 => ?_, fun j d' h1 => ?_, fun j c f h1 => ?_⟩, ?_, fun c hcm => ?_⟩
  · have key : ∀ k t, φ[k]? = some t → t.isC = true → as k ≠ a := fun k t h2 h4 z => by
      cases t with
      | ow d2 => exact hc (as k, d2) (List.mem_append_left _ (mem_csOf.mpr ⟨k, d2, .inl h2, by simp⟩)) z
      | bw d2 => exact hc (as k, d2) (List.mem_append_left _ (mem_csOf.mpr ⟨k, d2, .inr h2, by simp⟩)) z
      | _ => cases h4
    by_cases hj : j = i <;> by_cases hk : k = i
    · rw [hj, hk]
    · simp only [hj, hk, if_true, if_false] at h5
      rw [List.getElem?_set_ne (fun z => hk z.symm)] at h2
      exact absurd h5.symm (key k t h2 h4)
    · simp only [hj, hk, if_true, if_false] at h5
      rw [List.getElem?_set_ne (fun z => hj z.symm)] at h1
      exact absurd h5 (key j s h1 h3)
    · simp only [hj, hk, if_false] at h5
      rw [List.getElem?_set_ne (fun z => hj z.symm)] at h1
      rw [List.getElem?_set_ne (fun z => hk z.symm)] at h2
      exact xo.inj j k s t h1 h2 h3 h4 h5
  · by_cases hj : j = i
    · simp only [hj, if_true]
      exact fun z => hc c (List.mem_append_right _ hcx) z
    · simp only [hj, if_false]
      rw [List.getElem?_set_ne (fun z => hj z.symm)] at h1
      exact xo.dj j s h1 h2 c hcx
  · by_cases hj : j = i
    · simp only [hj, if_true]; exact hb
    · simp only [hj, if_false]
      rw [List.getElem?_set_ne (fun z => hj z.symm)] at h1
      exact xo.ow j d' h1
  · by_cases hj : j = i
    · subst hj
      by_cases hl : j < φ.length
      · rw [List.getElem?_set_self hl] at h1; cases h1
      · rw [List.getElem?_eq_none (by rw [List.length_set]; omega)] at h1; cases h1
    · simp only [hj, if_false]
      rw [List.getElem?_set_ne (fun z => hj z.symm)] at h1
      exact xo.bw j d' h1
  · by_cases hj : j = i
    · subst hj
      by_cases hl : j < φ.length
      · rw [List.getElem?_set_self hl] at h1; cases h1
      · rw [List.getElem?_eq_none (by rw [List.length_set]; omega)] at h1; cases h1
    · simp only [hj, if_false]
      rw [List.getElem?_set_ne (fun z => hj z.symm)] at h1
      exact xo.xc j c f h1
  · rw [roOf_set (k := 0) (i := i)]
    have e : (roOf as 0 φ).set i (some (.any (.ref a))) = (roOf (fun j => if j = i then a else as j) 0 φ).set i (Sl.ro ((fun j => if j = i then a else as j) (0 + i)) (.ow d)) := by
      rw [Nat.zero_add]
      simp only [if_true, Sl.ro]
      apply List.ext_getElem?
      intro j
      by_cases hj : i = j
      · subst hj
        rw [List.getElem?_set, List.getElem?_set, roOf_len, roOf_len, if_pos rfl, if_pos rfl]
      · rw [List.getElem?_set_ne hj, List.getElem?_set_ne hj, roOf_get, roOf_get, Nat.zero_add, if_neg (fun z => hj z.symm)]
    rw [e]
    exact le.refl _
  · rcases List.mem_append.mp hcm with h | h
    · obtain ⟨j, d', hd, rfl⟩ := mem_csOf.mp h
      by_cases hj : j = i
      · subst hj
        have hl : j < φ.length := by
          rcases hd with hd | hd <;> (have := (List.getElem?_eq_some_iff.mp hd).1; simpa using this)
        rw [List.getElem?_set_self hl] at hd
        rcases hd with hd | hd
        · cases hd
          simp
        · cases hd
      · rw [List.getElem?_set_ne (fun z => hj z.symm)] at hd
        refine List.mem_cons_of_mem _ (List.mem_append_left _ (mem_csOf.mpr ⟨j, d', hd, ?_⟩))
        simp [hj]
    · exact List.mem_cons_of_mem _ (List.mem_append_right _ h)
theorem EvM.ed (h : EvM K W bs te ρ cs (.ok .nw d)) : EvD K te ρ cs d := fun G H σ w e Q q => h G H σ w e Q fun p G2 H2 n hp gp c _ => q p G2 H2 n hp gp c
def fSetN (i : Nat) (a : FE) : FS := fun φ => match a φ with
  | some (.ok .nw d) => some (.nx (φ.set i (.ow d)))
  | some (.ex c f) => some (.ex c f φ)
  | _ => none
theorem sf_setN {i : Nat} (ha : EFb K W bs ε te A) : SF K W bs ε (tAsg te (gName i)) (fSetN i A) := fun bo xs φ r ρ cs p h => by
  unfold fSetN at h
  split at h
  · rename_i d e
    cases h
    exact sv_pn p fun as xo => sv_setD (ha bo as xs φ _ xo e).ed fun a hb hc => PN.new (bo := bo) xo hb hc
  · rename_i c f e
    cases h
    exact sv_pn p fun as xo => sv_asgX (ha bo as xs φ _ xo e) ⟨rfl, rfl, .mk xo⟩
  · cases h
def fDrop (a : FE) : FS := fun φ => match a φ with
  | some (.ok _ _) => some (.nx φ)
  | some (.ex c f) => some (.ex c f φ)
  | none => none
theorem sf_drop (ha : EFb K W bs ε te A) : SF K W bs ε (tDrop te) (fDrop A) := fun bo xs φ r ρ cs p h => by
  unfold fDrop at h
  split at h
  · rename_i k d e
    cases h
    refine sv_pn p fun as xo => fun G0 H0 G H σ E r en o => (ha bo as xs φ _ xo e).rd G H σ r.wl en _ fun v G2 H2 n rv => ?_
    exact o.nx G2 H2 σ _ _ (r.step n) (en.mono n.g) (.mk xo)
  · rename_i c f e
    cases h
    exact sv_pn p fun as xo => sv_dropX (ha bo as xs φ _ xo e) ⟨rfl, rfl, .mk xo⟩
  · cases h
/-! ### return -/
theorem rl_frz {a : Addr} (r : Rl K G0 H0 bs G H cs) (hc : (a, d) ∈ cs) (hb : a ∉ bs) (hok : frzOk d = true) : ∃ G', Rl K G0 H0 bs G' H (delC a cs) ∧ Rep K G' (.ref a) d := by
  have e : Env K G [some (.ref a)] [some (.any (.ref a))] := ⟨rfl, fun i x h => by
    cases i with
    | zero => simp at h; subst h; exact ⟨_, rfl, .any _⟩
    | succ i => simp at h⟩
  obtain ⟨G', r', e'⟩ := r.freeze e hc hb (ρ1 := [some d]) ⟨.inr ⟨rfl, rfl⟩, trivial⟩ hok
  obtain ⟨v, h1, h2⟩ := e'.at_ 0 d rfl
  simp at h1
  subst h1
  exact ⟨G', r', h2⟩
def retO : Kd → D → Option Out
  | .pl, d => some (.ret d)
  | .nw, .lst ds => some (.new ds)
  | .nw, d => some (.ret d)
  | .ow, .lst ds => some (.new ds)
  | .ow, d => if frzOk d = true then some (.ret d) else none
  | .bw, _ => none
def fRet (a : FE) : FS := fun φ => match a φ with
  | some (.ok k d) => (retO k d).map fun o => .rt o φ
  | some (.ex c f) => some (.ex c f φ)
  | none => none
theorem XO.bwm (xo : XO ε bs as φ xs) (i : Nat) (d : D) (h : φ[i]? = some (.bw d)) : (ε.bo i, d) ∈ csOf as 0 φ ++ xs := by
  rw [← xo.bw i d h]
  exact List.mem_append_left _ (mem_csOf.mpr ⟨i, d, .inr h, by simp⟩)
theorem sv_retM {o : Out} {k : Kd} (xo : XO ε bs as φ xs) (h : EvM K W bs te (roOf as 0 φ) (csOf as 0 φ ++ xs) (.ok k d)) (ho : retO k d = some o) : Sv K W bs (tRet te) (roOf as 0 φ) (csOf as 0 φ ++ xs) (poR ε bs xs (.rt o φ)) := by
  have ret : k.fz = true → o = .ret d → Sv K W bs (tRet te) (roOf as 0 φ) (csOf as 0 φ ++ xs) (poR ε bs xs (.rt o φ)) := fun hk he => by
    subst he
    exact sv_ret (h.ev hk) ⟨rfl, fun i d hd _ => xo.bwm i d hd⟩
  have fre : k = .ow → o = .ret d → frzOk d = true → Sv K W bs (tRet te) (roOf as 0 φ) (csOf as 0 φ ++ xs) (poR ε bs xs (.rt o φ)) := fun hk he hf => by
    subst hk he
    exact fun G0 H0 G H σ E r en o => h G H σ r.wl en _ fun a G2 H2 n hc hb => by
      obtain ⟨G', r', rp⟩ := rl_frz (r.step n) hc hb hf
      exact o.rt G' H2 _ d _ r' rp ⟨rfl, fun i d hd hbs => List.mem_filter.mpr ⟨xo.bwm i d hd, decide_eq_true fun z => hb (z ▸ hbs)⟩⟩
  have lst : ∀ ds, k = .ow → d = .lst ds → o = .new ds → Sv K W bs (tRet te) (roOf as 0 φ) (csOf as 0 φ ++ xs) (poR ε bs xs (.rt o φ)) := fun ds hk hd he => by
    subst hk hd he
    exact fun G0 H0 G H σ E r en o => h G H σ r.wl en _ fun a G2 H2 n hc hb => o.rt G2 H2 _ _ _ (r.step n) (.any _) ⟨⟨a, rfl, hc⟩, fun i d hd _ => xo.bwm i d hd⟩
  cases k with
  | pl =>
    unfold retO at ho
    cases ho
    exact ret rfl rfl
  | nw =>
    cases d with
    | lst ds =>
      cases ho
      exact fun G0 H0 G H σ E r en o => h G H σ r.wl en _ fun p G2 H2 n hp gp c hf => by
        obtain ⟨a1, a2, a3⟩ := r.none0 hp
        exact o.rt G2 H2 _ _ _ ((r.step n).newCellD a1 gp c a3) (.any _) ⟨⟨p, rfl, List.mem_cons_self⟩, fun i d hd _ => List.mem_cons_of_mem _ (xo.bwm i d hd)⟩
    | _ => (unfold retO at ho; cases ho; exact ret rfl rfl)
  | ow =>
    cases d with
    | lst ds => cases ho; exact lst ds rfl rfl rfl
    | obj C fs => cases ho; exact fre rfl rfl rfl
    | dik fs => cases ho; exact fre rfl rfl rfl
    | dit fs => cases ho; exact fre rfl rfl rfl
    | dix w fs => cases ho; exact fre rfl rfl rfl
    | _ => (unfold retO at ho; simp [frzOk] at ho)
  | bw => cases ho
theorem sf_ret (ha : EFb K W bs ε te A) : SF K W bs ε (tRet te) (fRet A) := fun bo xs φ r ρ cs p h => by
  unfold fRet at h
  split at h
  · rename_i k d e
    cases ho : retO k d with
    | none => rw [ho] at h; cases h
    | some o =>
      rw [ho] at h
      cases h
      exact sv_pn p fun as xo => sv_retM xo (ha bo as xs φ _ xo e) ho
  · rename_i c f e
    cases h
    exact sv_pn p fun as xo => sv_retX (ha bo as xs φ _ xo e) ⟨rfl, rfl, .mk xo⟩
  · cases h
def fRetN : FS := fun φ => some (.rt (.ret .non) φ)
theorem sf_retN : SF K W bs ε tRetN fRetN := fun bo xs φ r ρ cs p h => by
  cases h
  exact sv_pn p fun as xo => sv_retNone ⟨rfl, fun i d hd _ => xo.bwm i d hd⟩
/-! ### freezing -/
def frzS (i : Nat) (φ : Fs) : Fs := match φ[i]? with
  | some (.ow d) => if frzOk d = true then φ.set i (.pl d) else φ
  | _ => φ
theorem frzR {a : Addr} : ∀ (r : Ro), frz a d r r
  | [] => trivial
  | x :: r => ⟨.inl rfl, frzR r⟩
theorem frz_set {a : Addr} : ∀ {φ : Fs} {k i : Nat}, φ[i]? = some (.ow d) → as (k + i) = a → frz a d (roOf as k φ) (roOf as k (φ.set i (.pl d)))
  | [], _, _, h, _ => by simp at h
  | s :: φ, k, 0, h, e => by
    simp at h
    subst h
    refine ⟨.inr ⟨?_, rfl⟩, frzR _⟩
    simp at e
    simp [Sl.ro, e]
  | s :: φ, k, i + 1, h, e => ⟨.inl rfl, frz_set (φ := φ) (k := k + 1) (i := i) (by simpa using h) (by rw [← e]; congr 1; omega)⟩
theorem sf_frz {i : Nat} (h : SF K W bs ε t F) : SF K W bs ε t (fun φ => F (frzS i φ)) := fun bo xs φ r ρ cs p hr => by
  simp only [frzS] at hr
  split at hr
  · rename_i d hd
    split at hr
    · rename_i hf
      refine sv_pn p fun as xo => ?_
      have hm : (as i, d) ∈ csOf as 0 φ ++ xs := List.mem_append_left _ (mem_csOf.mpr ⟨i, d, .inl hd, by simp⟩)
      refine sv_freeze (a := as i) (d := d) _ hm (xo.ow i d hd) (frz_set hd (by simp)) hf (h bo xs _ r _ _ ?_ hr)
      have sh : Sh φ (φ.set i (.pl d)) := sh_set rfl rfl
      refine ⟨as, xo.sh sh, le.refl _, fun c hc => List.mem_filter.mpr ⟨?_, decide_eq_true fun z => ?_⟩⟩
      · rcases List.mem_append.mp hc with hc | hc
        · exact List.mem_append_left _ (sh.csm hc)
        · exact List.mem_append_right _ hc
      · rcases List.mem_append.mp hc with hc | hc
        · obtain ⟨j, s, h1, h2, h3⟩ := csOf_isC hc
          have h1' := sh.at_ j s h1 (.inl h2)
          have := xo.inj j i s _ h1' hd h2 rfl (by rw [← z, h3, Nat.zero_add])
          subst this
          have hl : j < φ.length := (List.getElem?_eq_some_iff.mp hd).1
          rw [List.getElem?_set_self hl] at h1
          cases h1
          cases h2
        · exact xo.dj i _ hd rfl c hc z
    · exact h bo xs φ r ρ cs p hr
  · exact h bo xs φ r ρ cs p hr
end
end Lv

/-! F: what changes cells, targets, what is walked, loops -/
namespace Lv
open PySem L2
open Evl (Ex)
open Classical
section
variable {K : PySem.W.Frag} {G G0 G1 G2 G3 H H0 H1 H2 H3 : Hp} {ρ ρ1 : Ro} {cs xs : Cs} {ta tb te tx : TE} {tt tu : TT} {d d' e x y z : D} {W : WX} {bs : List Addr} {ε : Xe} {t u : TS} {A B C : FE} {tr : TA} {T : FA} {as : Nat → Addr} {φ φ' φ1 φ2 : Fs} {F M N : FS}
/-! ### cells change -/
/-- the content of the cell in slot i -/
def cellOf (φ : Fs) (i : Nat) : Option D := match φ[i]? with
  | some (.ow d) => some d
  | some (.bw d) => some d
  | _ => none
def putCell (φ : Fs) (i : Nat) (d : D) : Fs := match φ[i]? with
  | some (.ow _) => φ.set i (.ow d)
  | some (.bw _) => φ.set i (.bw d)
  | _ => φ
theorem cellOf_some {i : Nat} (h : cellOf φ i = some d) : φ[i]? = some (.ow d) ∨ φ[i]? = some (.bw d) := by
  unfold cellOf at h
  split at h
  · cases h; exact .inl (by assumption)
  · cases h; exact .inr (by assumption)
  · cases h
theorem cell_mem {i : Nat} (h : cellOf φ i = some d) : (as i, d) ∈ csOf as 0 φ ++ xs := List.mem_append_left _ (mem_csOf.mpr ⟨i, d, cellOf_some h, by simp⟩)
theorem cell_ev {i : Nat} (h : cellOf φ i = some d) : Ev K (tVar i) (roOf as 0 φ) cs (.any (.ref (as i))) := ev_var (by
  rw [roOf_get, Nat.zero_add]
  rcases cellOf_some h with h | h <;> (rw [h]; rfl))
theorem set_at {i j : Nat} {s : Sl} {u : Sl} (h : (φ.set i s)[j]? = some u) : (j = i ∧ u = s) ∨ (j ≠ i ∧ φ[j]? = some u) := by
  by_cases hj : i = j
  · subst hj
    by_cases hl : i < φ.length
    · rw [List.getElem?_set_self hl] at h
      cases h
      exact .inl ⟨rfl, rfl⟩
    · rw [List.getElem?_eq_none (by rw [List.length_set]; omega)] at h
      cases h
  · rw [List.getElem?_set_ne hj] at h
    exact .inr ⟨fun z => hj z.symm, h⟩
theorem setC_mem {a : Addr} : ∀ {cs : Cs}, (a, d) ∈ cs → (a, d') ∈ setC a d' cs
  | [], h => by simp at h
  | c :: cs, h => by
    rw [setC]
    by_cases hc : c.1 = a
    · rw [if_pos hc]; exact List.mem_cons_self
    · rw [if_neg hc]
      rcases List.mem_cons.mp h with h | h
      · subst h; exact absurd rfl hc
      · exact List.mem_cons_of_mem _ (setC_mem h)
theorem setC_keep {a : Addr} {c : Addr × D} : ∀ {cs : Cs}, c ∈ cs → c.1 ≠ a → c ∈ setC a d' cs
  | [], h, _ => by simp at h
  | b :: cs, h, hn => by
    rw [setC]
    by_cases hb : b.1 = a
    · rw [if_pos hb]
      rcases List.mem_cons.mp h with h | h
      · subst h; exact absurd hb hn
      · exact List.mem_cons_of_mem _ h
    · rw [if_neg hb]
      rcases List.mem_cons.mp h with h | h
      · subst h; exact List.mem_cons_self
      · exact List.mem_cons_of_mem _ (setC_keep h hn)
theorem XO.kind {i : Nat} {s s' : Sl} (xo : XO ε bs as φ xs) (hi : φ[i]? = some s) (hc : s'.isC = true → s.isC = true) (ho : ∀ d, s' = .ow d → ∃ d', s = .ow d') (hb : ∀ d, s' = .bw d → ∃ d', s = .bw d') (hx : s'.isX = false) : XO ε bs as (φ.set i s') xs := by
  refine ⟨fun j k a b h1 h2 h3 h4 => ?_, fun j a h1 h2 => ?_, xo.xn, fun j d h1 => ?_, fun j d h1 => ?_, fun j c f h1 => ?_⟩
  · have key : ∀ {j : Nat} {a : Sl}, (φ.set i s')[j]? = some a → a.isC = true → ∃ a', φ[j]? = some a' ∧ a'.isC = true := fun h1 h3 => by
      rcases set_at h1 with ⟨rfl, rfl⟩ | ⟨_, h⟩
      · exact ⟨s, hi, hc h3⟩
      · exact ⟨_, h, h3⟩
    obtain ⟨a', e1, e3⟩ := key h1 h3
    obtain ⟨b', e2, e4⟩ := key h2 h4
    exact xo.inj j k a' b' e1 e2 e3 e4
  · rcases set_at h1 with ⟨rfl, rfl⟩ | ⟨_, h⟩
    · exact xo.dj j s hi (hc h2)
    · exact xo.dj j a h h2
  · rcases set_at h1 with ⟨rfl, e⟩ | ⟨_, h⟩
    · obtain ⟨d', rfl⟩ := ho d e.symm
      exact xo.ow j d' hi
    · exact xo.ow j d h
  · rcases set_at h1 with ⟨rfl, e⟩ | ⟨_, h⟩
    · obtain ⟨d', rfl⟩ := hb d e.symm
      exact xo.bw j d' hi
    · exact xo.bw j d h
  · rcases set_at h1 with ⟨rfl, e⟩ | ⟨_, h⟩
    · subst e; cases hx
    · exact xo.xc j c f h
theorem PN.put {i : Nat} (xo : XO ε bs as φ xs) (h : cellOf φ i = some d) : PN ε bs xs (putCell φ i d') (roOf as 0 φ) (setC (as i) d' (csOf as 0 φ ++ xs)) := by
  have main : ∀ s s' : Sl, φ[i]? = some s → s.isC = true → s'.isC = true → s'.isX = false → (∀ d, s' = .ow d → ∃ d', s = .ow d') → (∀ d, s' = .bw d → ∃ d', s = .bw d') → s'.ro (as i) = s.ro (as i) → (∀ c, c ∈ s'.cs (as i) → c = (as i, d')) → PN ε bs xs (φ.set i s') (roOf as 0 φ) (setC (as i) d' (csOf as 0 φ ++ xs)) := fun s s' hi h1 h2 h3 h4 h5 h6 h7 => by
    refine ⟨as, xo.kind hi (fun _ => h1) h4 h5 h3, ?_, fun c hc => ?_⟩
    · rw [roOf_set (k := 0) (i := i), Nat.zero_add, h6]
      have e : (roOf as 0 φ).set i (s.ro (as i)) = roOf as 0 φ := by
        apply List.ext_getElem?
        intro j
        by_cases hj : i = j
        · subst hj
          rw [List.getElem?_set, if_pos rfl, roOf_get, hi, Nat.zero_add, roOf_len, if_pos (List.getElem?_eq_some_iff.mp hi).1]
          rfl
        · rw [List.getElem?_set_ne hj]
      rw [e]
      exact le.refl _
    · rcases List.mem_append.mp hc with hc | hc
      · obtain ⟨j, d2, hd, rfl⟩ := mem_csOf.mp hc
        rw [Nat.zero_add]
        by_cases hj : j = i
        · subst hj
          have e : (as j, d2) = (as j, d') := by
            rcases hd with hd | hd
            · rcases set_at hd with ⟨_, e⟩ | ⟨z, _⟩
              · exact h7 _ (by rw [← e]; simp [Sl.cs])
              · exact absurd rfl z
            · rcases set_at hd with ⟨_, e⟩ | ⟨z, _⟩
              · exact h7 _ (by rw [← e]; simp [Sl.cs])
              · exact absurd rfl z
          rw [e]
          exact setC_mem (cell_mem h)
        · have hd' : φ[j]? = some (.ow d2) ∨ φ[j]? = some (.bw d2) := by
            rcases hd with hd | hd
            · rcases set_at hd with ⟨z, _⟩ | ⟨_, z⟩
              · exact absurd z hj
              · exact .inl z
            · rcases set_at hd with ⟨z, _⟩ | ⟨_, z⟩
              · exact absurd z hj
              · exact .inr z
          refine setC_keep (List.mem_append_left _ (mem_csOf.mpr ⟨j, d2, hd', by simp⟩)) fun z => hj ?_
          rcases hd' with hd' | hd'
          · exact xo.inj j i _ s hd' hi rfl h1 z
          · exact xo.inj j i _ s hd' hi rfl h1 z
      · exact setC_keep (List.mem_append_right _ hc) (xo.dj i s hi h1 c hc)
  unfold putCell
  unfold cellOf at h
  split at h
  · rename_i d0 hi
    exact main _ _ hi rfl rfl rfl (fun _ _ => ⟨_, rfl⟩) (fun _ z => by cases z) rfl (fun c hc => by simpa [Sl.cs] using hc)
  · rename_i d0 hi
    exact main _ _ hi rfl rfl rfl (fun _ z => by cases z) (fun _ _ => ⟨_, rfl⟩) rfl (fun c hc => by simpa [Sl.cs] using hc)
  · cases h
/-- with the data of an expression (no cell that stays a cell) -/
def sb (m : Option Rs) (φ : Fs) (k : D → Option Br) : Option Br := match m with
  | some (.ok kd d) => if kd.fz = true then k d else none
  | some (.ex c f) => some (.ex c f φ)
  | none => none
theorem sb_some {m : Option Rs} {φ : Fs} {k : D → Option Br} {r : Br} (h : sb m φ k = some r) : (∃ c f, m = some (.ex c f) ∧ r = .ex c f φ) ∨ ∃ kd d, m = some (.ok kd d) ∧ kd.fz = true ∧ k d = some r := by
  unfold sb at h
  split at h
  · split at h
    · exact .inr ⟨_, _, rfl, by assumption, h⟩
    · cases h
  · cases h; exact .inl ⟨_, _, rfl, rfl⟩
  · cases h
@[simp] theorem sb_none {φ : Fs} {k : D → Option Br} : sb none φ k = none := rfl
@[simp] theorem sb_ex {φ : Fs} {k : D → Option Br} {c : Value} {f : Option (List (Str × D))} : sb (some (.ex c f)) φ k = some (.ex c f φ) := rfl
@[simp] theorem sb_pl {φ : Fs} {k : D → Option Br} : sb (some (.ok .pl d)) φ k = k d := rfl
@[simp] theorem sb_nw {φ : Fs} {k : D → Option Br} : sb (some (.ok .nw d)) φ k = k d := rfl
theorem sv_appX {a : Addr} {ds : List D} {P : Po} {c : Value} {f : Option (List (Str × D))} (hc : (a, .lst ds) ∈ cs) (ho : Ev K ta ρ cs (.any (.ref a))) (h : EvE K W te ρ cs (.exc c f)) (k : P.ex ρ cs c f) :
    Sv K W bs (tDrop (tBM K "list" rAppend ta (tCons te tNil))) ρ cs P := fun G0 H0 G H σ E r e o => ho G H σ r.wl e _ fun v G2 H2 n rv => by
  cases rv
  have r2 := r.step n
  obtain ⟨_, vs, hv, _⟩ := r2.wl.cell _ hc
  refine ⟨Or.inl ⟨rfl, vs, .inl (.inl hv)⟩, h G2 H2 σ r2.wl (e.mono n.g) _ fun dd G3 H3 n3 x xn => ?_⟩
  exact o.ex G3 H3 σ ρ cs c dd f (r2.step n3) ((e.mono n.g).mono n3.g) x (fun p hp => ⟨(r2.none0 (xn p hp).1).1, (xn p hp).2.1, (r2.none0 (xn p hp).1).2.2⟩) k
/-- x.append(e) -/
def fApp (i : Nat) (a : FE) : FS := fun φ => match cellOf φ i with
  | some (.lst ds) => sb (a φ) φ fun d => if ds.length < 100000 then some (.nx (putCell φ i (.lst (ds ++ [d])))) else none
  | _ => none
theorem sf_app {i : Nat} (ha : EFb K W bs ε te A) : SF K W bs ε (tDrop (tBM K "list" rAppend (tVar i) (tCons te tNil))) (fApp i A) := fun bo xs φ r ρ cs p h => by
  unfold fApp at h
  split at h
  · rename_i ds hi
    rcases sb_some h with ⟨c, f, e, rfl⟩ | ⟨kd, d, e, hk, h⟩
    · exact sv_pn p fun as xo => sv_appX (cell_mem hi) (cell_ev hi) (ha bo as xs φ _ xo e) ⟨rfl, rfl, .mk xo⟩
    · split at h
      · rename_i hz
        cases h
        exact sv_pn p fun as xo => sv_app (cell_mem hi) (cell_ev hi) ((ha bo as xs φ _ xo e).ev hk) hz (PN.put xo hi)
      · cases h
  · cases h
/-- o.f = e -/
noncomputable def fFldS (K : PySem.W.Frag) (i : Nat) (f : Str) (a : FE) : FS := fun φ => match cellOf φ i with
  | some (.obj C fs) => sb (a φ) φ fun d => if Cls K C ∧ NoAttr K C f ∧ fs.length < 1000 then some (.nx (putCell φ i (.obj C (putD f d fs)))) else none
  | _ => none
theorem sf_fld {i : Nat} {f : Str} (ha : EFb K W bs ε te A) : SF K W bs ε (sFld K (tVar i) te f) (fFldS K i f A) := fun bo xs φ r ρ cs p h => by
  unfold fFldS at h
  split at h
  · rename_i C fs hi
    rcases sb_some h with ⟨c, g, e, rfl⟩ | ⟨kd, d, e, hk, h⟩
    · refine sv_pn p fun as xo => fun G0 H0 G H σ E r en o => ?_
      refine ha bo as xs φ _ xo e G H σ r.wl en _ fun dd G3 H3 n3 x xn => ?_
      exact o.ex G3 H3 σ _ _ _ dd g (r.step n3) (en.mono n3.g) x (fun p hp => ⟨(r.none0 (xn p hp).1).1, (xn p hp).2.1, (r.none0 (xn p hp).1).2.2⟩) ⟨rfl, rfl, .mk xo⟩
    · split at h
      · rename_i hz
        cases h
        exact sv_pn p fun as xo => sv_fld (cell_mem hi) ((ha bo as xs φ _ xo e).ev hk) (cell_ev hi) hz.1 hz.2.1 hz.2.2 (PN.put xo hi)
      · cases h
  · cases h
/-- x += e -/
def fAug (i : Nat) (g : Int → Int → Int) (a : FE) : FS := fun φ => match φ[i]? with
  | some (.pl (.int m)) => sb (a φ) φ fun d => match d with
    | .int n => some (.nx (φ.set i (.pl (.int (g m n)))))
    | _ => none
  | _ => none
theorem sf_aug {i : Nat} {g : Int → Int → Int} (ha : EFb K W bs ε te A) : SF K W bs ε (tAug i te (ipI g)) (fAug i g A) := fun bo xs φ r ρ cs p h => by
  unfold fAug at h
  split at h
  · rename_i m hi
    have hv : ∀ as, (roOf as 0 φ)[i]? = some (some (.int m)) := fun as => by rw [roOf_get, hi]; rfl
    rcases sb_some h with ⟨c, f, e, rfl⟩ | ⟨kd, d, e, hk, h⟩
    · refine sv_pn p fun as xo => fun G0 H0 G H σ E r en o => ?_
      obtain ⟨v, h1, rv⟩ := en.at_ i _ (hv as)
      refine ⟨v, h1, ha bo as xs φ _ xo e G H σ r.wl en _ fun dd G3 H3 n3 x xn => ?_⟩
      exact o.ex G3 H3 σ _ _ _ dd f (r.step n3) (en.mono n3.g) x (fun p hp => ⟨(r.none0 (xn p hp).1).1, (xn p hp).2.1, (r.none0 (xn p hp).1).2.2⟩) ⟨rfl, rfl, .mk xo⟩
    · split at h
      · rename_i n
        cases h
        refine sv_pn p fun as xo => sv_aug (hv as) (evm_int (ha bo as xs φ _ xo e)) ?_
        have := PN.sub xo (sh_set (φ := φ) (i := i) (s := .pl (.int (g m n))) rfl rfl)
        rw [roOf_set (k := 0) (i := i)] at this
        exact this
      · cases h
  · cases h
/-! ### targets -/
abbrev FG := D → Fs → Option Fs
def GF (K : PySem.W.Frag) (g : TG) (F : FG) (js : List Nat) : Prop := ∀ φ φ' d, F d φ = some φ' → Sh φ φ' ∧ (∀ i, i ∉ js → φ'[i]? = φ[i]?) ∧ (∀ i, i ∈ js → ∀ s, φ'[i]? = some s → s.isC = false ∧ s.isX = false) ∧ ∀ as, EvG K g d (roOf as 0 φ) (roOf as 0 φ') js
abbrev FGs := List D → Fs → Option Fs
def GFs (K : PySem.W.Frag) (g : TGs) (F : FGs) (js : List Nat) : Prop := ∀ φ φ' ds, F ds φ = some φ' → Sh φ φ' ∧ (∀ i, i ∉ js → φ'[i]? = φ[i]?) ∧ (∀ i, i ∈ js → ∀ s, φ'[i]? = some s → s.isC = false ∧ s.isX = false) ∧ ∀ as, EvGs K g ds (roOf as 0 φ) (roOf as 0 φ') js
def gN (i : Nat) : FG := fun d φ => some (φ.set i (.pl d))
def gsNil : FGs := fun ds φ => match ds with
  | [] => some φ
  | _ => none
def gsCons (a : FG) (b : FGs) : FGs := fun ds φ => match ds with
  | [] => none
  | d :: ds => match a d φ with
    | none => none
    | some φ' => b ds φ'
def gT (n : Nat) (a : FGs) : FG := fun d φ => match d with
  | .tup ds => if ds.length = n then a ds φ else none
  | _ => none
theorem gf_name {i : Nat} : GF K (gName i) (gN i) [i] := fun φ φ' d h => by
  cases h
  refine ⟨sh_set rfl rfl, fun j hj => List.getElem?_set_ne (fun z => hj (by simp [z])), fun j hj s h => ?_, fun as => ?_⟩
  · rw [List.mem_singleton] at hj
    subst hj
    rcases set_at h with ⟨_, rfl⟩ | ⟨z, _⟩
    · exact ⟨rfl, rfl⟩
    · exact absurd rfl z
  · rw [roOf_set (k := 0) (i := i)]
    exact eg_name
theorem gfs_nil : GFs K gNil gsNil [] := fun φ φ' ds h => by
  unfold gsNil at h
  split at h
  · cases h
    exact ⟨Sh.refl _, fun _ _ => rfl, fun i hi => by simp at hi, fun as => egs_nil⟩
  · cases h
theorem gfs_cons {g : TG} {gs : TGs} {F : FG} {Fs' : FGs} {js js' : List Nat} (h1 : GF K g F js) (h2 : GFs K gs Fs' js') : GFs K (gCons g gs) (gsCons F Fs') (js ++ js') := fun φ φ' ds h => by
  unfold gsCons at h
  split at h
  · cases h
  · rename_i d ds
    split at h
    · cases h
    · rename_i φ1 e
      obtain ⟨a1, a2, a3, a4⟩ := h1 _ _ _ e
      obtain ⟨b1, b2, b3, b4⟩ := h2 _ _ _ h
      refine ⟨a1.trans b1, fun i hi => ?_, fun i hi s hs => ?_, fun as => egs_cons (a4 as) (b4 as)⟩
      · rw [List.mem_append, not_or] at hi
        rw [b2 i hi.2, a2 i hi.1]
      · by_cases hj : i ∈ js'
        · exact b3 i hj s hs
        · rw [b2 i hj] at hs
          exact a3 i ((List.mem_append.mp hi).resolve_right hj) s hs
theorem gf_tup {gs : TGs} {Fs' : FGs} {js : List Nat} {n : Nat} (h1 : GFs K gs Fs' js) : GF K (gTup K n gs) (gT n Fs') js := fun φ φ' d h => by
  unfold gT at h
  split at h
  · split at h
    · obtain ⟨a1, a2, a3, a4⟩ := h1 _ _ _ h
      exact ⟨a1, a2, a3, fun as => eg_tup (a4 as) (by assumption)⟩
    · cases h
  · cases h
def fAsg (g : FG) (a : FE) : FS := fun φ => sb (a φ) φ fun d => (g d φ).map Br.nx
theorem sf_asg {g : TG} {Fg : FG} {js : List Nat} (hg : GF K g Fg js) (ha : EFb K W bs ε te A) : SF K W bs ε (tAsg te g) (fAsg Fg A) := fun bo xs φ r ρ cs p h => by
  rcases sb_some h with ⟨c, f, e, rfl⟩ | ⟨kd, d, e, hk, h⟩
  · exact sv_pn p fun as xo => sv_asgX (ha bo as xs φ _ xo e) ⟨rfl, rfl, .mk xo⟩
  · cases h1 : Fg d φ with
    | none => rw [h1] at h; cases h
    | some φ1 =>
      rw [h1] at h
      cases h
      obtain ⟨a1, a2, a3, a4⟩ := hg _ _ _ h1
      exact sv_pn p fun as xo => sv_asg ((ha bo as xs φ _ xo e).ev hk) (a4 as) (PN.sub xo a1)
/-! ### what is walked -/
inductive Ri where
  | ok (ds : List D) (src : Option Nat)
  | ex (c : Value) (fs : Option (List (Str × D)))
abbrev FI := Fs → Option Ri
def IF (K : PySem.W.Frag) (W : WX) (bs : List Addr) (ε : Xe) (wi : TI) (F : FI) : Prop := ∀ bo as xs φ r, XO { ε with bo := bo } bs as φ xs → F φ = some r → match r with
  | .ok ds src => (src = none ∧ EvI K wi (roOf as 0 φ) (csOf as 0 φ ++ xs) [] ds) ∨ ∃ j, src = some j ∧ cellOf φ j = some (.lst ds) ∧ EvI K wi (roOf as 0 φ) (csOf as 0 φ ++ xs) [(as j, .lst ds)] ds
  | .ex c f => ∀ G H σ, Wl K G H (csOf as 0 φ ++ xs) → Env K G σ (roOf as 0 φ) → ∀ R, GetsM K bs G H (csOf as 0 φ ++ xs) (fun _ _ => True) (WE W σ) (.ex c f) → wi σ H R
/-- the items of a list, a tuple -/
def itsD : D → Option (List D)
  | .lst ds => some ds
  | .tup ds => some ds
  | _ => none
def iSeqF (a : FE) : FI := fun φ => match a φ with
  | some (.ok k d) => if k.fz = true then (itsD d).map fun ds => .ok ds none else none
  | some (.ex c f) => some (.ex c f)
  | none => none
theorem if_seq (ha : EFb K W bs ε te A) : IF K W bs ε (iSeq K te) (iSeqF A) := fun bo as xs φ r xo h => by
  unfold iSeqF at h
  split at h
  · rename_i k d e
    split at h
    · rename_i hk
      cases d with
      | lst ds => cases h; exact .inl ⟨rfl, ei_seqL ((ha bo as xs φ _ xo e).ev hk)⟩
      | tup ds => cases h; exact .inl ⟨rfl, ei_seqT ((ha bo as xs φ _ xo e).ev hk)⟩
      | _ => simp [itsD] at h
    · cases h
  · rename_i c f e
    cases h
    exact fun G H σ w en R q => .inl (ha bo as xs φ _ xo e G H σ w en _ q)
  · cases h
def iVarF (i : Nat) : FI := fun φ => match φ[i]? with
  | some (.pl d) => (itsD d).map fun ds => .ok ds none
  | some (.ow (.lst ds)) => some (.ok ds (some i))
  | some (.bw (.lst ds)) => some (.ok ds (some i))
  | _ => none
theorem if_var {i : Nat} : IF K W bs ε (iSeq K (tVar i)) (iVarF i) := fun bo as xs φ r xo h => by
  unfold iVarF at h
  split at h
  · rename_i d hd
    have hv : Ev K (tVar i) (roOf as 0 φ) (csOf as 0 φ ++ xs) d := ev_var (by rw [roOf_get, hd]; rfl)
    cases d with
    | lst ds => cases h; exact .inl ⟨rfl, ei_seqL hv⟩
    | tup ds => cases h; exact .inl ⟨rfl, ei_seqT hv⟩
    | _ => simp [itsD] at h
  · rename_i ds hd
    cases h
    have hc : cellOf φ i = some (.lst ds) := by unfold cellOf; rw [hd]
    exact .inr ⟨i, rfl, hc, ei_seqC (cell_ev hc) (cell_mem hc)⟩
  · rename_i ds hd
    cases h
    have hc : cellOf φ i = some (.lst ds) := by unfold cellOf; rw [hd]
    exact .inr ⟨i, rfl, hc, ei_seqC (cell_ev hc) (cell_mem hc)⟩
  · cases h
def ib (m : Option As) (k : List D → Option Ri) : Option Ri := match m with
  | none => none
  | some (.ex c f) => some (.ex c f)
  | some (.ok ks) => if (ks.all fun p => p.1.fz) = true then k (ks.map Prod.snd) else none
theorem ib_some {m : Option As} {k : List D → Option Ri} {r : Ri} (h : ib m k = some r) : (∃ c f, m = some (.ex c f) ∧ r = .ex c f) ∨ ∃ ks, m = some (.ok ks) ∧ (ks.all fun p => p.1.fz) = true ∧ k (ks.map Prod.snd) = some r := by
  unfold ib at h
  split at h
  · cases h
  · cases h; exact .inl ⟨_, _, rfl, rfl⟩
  · split at h
    · exact .inr ⟨_, rfl, by assumption, h⟩
    · cases h
def rngD (lo : Int) (n : Nat) : List D := (List.range n).map fun (i : Nat) => D.int (lo + (i : Int))
def iRng1F (a : FA) : FI := fun φ => ib (a φ) fun ds => match ds with
  | [.int n] => if -100000 ≤ n ∧ n ≤ 100000 then some (.ok (rngD 0 n.toNat) none) else none
  | _ => none
def iRng2F (a : FA) : FI := fun φ => ib (a φ) fun ds => match ds with
  | [.int lo, .int hi] => if -100000 ≤ lo ∧ lo ≤ 100000 ∧ -100000 ≤ hi ∧ hi ≤ 100000 then some (.ok (rngD lo (hi - lo).toNat) none) else none
  | _ => none
theorem ei_rng {ta : TA} {n : Int} (h : EvA K ta ρ cs [.int n]) (hn : -100000 ≤ n ∧ n ≤ 100000) : EvI K (iRng1 ta) ρ cs [] (rngD 0 n.toNat) := fun G H σ w e R q => h G H σ w e _ fun vs G2 H2 nx r => by
  cases r with
  | cons r0 r1 =>
    cases r1
    cases r0
    refine ⟨n, rfl, by omega, by omega, q _ G2 H2 nx no_src ⟨fun i d G3 H3 cs3 hd x w3 _ => ?_, fun i G3 H3 cs3 hi x w3 _ => ?_⟩⟩
    · unfold rngD at hd
      rw [List.getElem?_map] at hd
      have hi : i < n.toNat := by
        cases hr : (List.range n.toNat)[i]? with
        | none => rw [hr] at hd; cases hd
        | some u =>
          have := (List.getElem?_eq_some_iff.mp hr).1
          simpa using this
      rw [List.getElem?_range hi] at hd
      cases hd
      refine ⟨hi, fun y H' hy => ?_⟩
      obtain ⟨rfl, rfl⟩ := hy
      exact ⟨G3, Nx.refl w3.sub, .int _⟩
    · unfold rngD at hi
      rw [List.length_map, List.length_range] at hi
      exact hi
theorem if_rng1 (ht : AFb K W bs ε tr T) : IF K W bs ε (iRng1 tr) (iRng1F T) := fun bo as xs φ r xo h => by
  rcases ib_some h with ⟨c, g, e, rfl⟩ | ⟨ks, e, hk, h⟩
  · exact fun G H σ w en R q => ht bo as xs φ _ xo e G H σ w en _ q
  have ha := EvAM.a (ht bo as xs φ _ xo e) hk
  split at h
  · rename_i n hn
    rw [hn] at ha
    split at h
    · cases h
      exact .inl ⟨rfl, ei_rng ha (by assumption)⟩
    · cases h
  · cases h
theorem if_rng2 (ht : AFb K W bs ε tr T) : IF K W bs ε (iRng2 tr) (iRng2F T) := fun bo as xs φ r xo h => by
  rcases ib_some h with ⟨c, g, e, rfl⟩ | ⟨ks, e, hk, h⟩
  · exact fun G H σ w en R q => ht bo as xs φ _ xo e G H σ w en _ q
  have ha := EvAM.a (ht bo as xs φ _ xo e) hk
  split at h
  · rename_i lo hi hn
    rw [hn] at ha
    split at h
    · cases h
      exact .inl ⟨rfl, ei_rng2 ha (by assumption)⟩
    · cases h
  · cases h
/-! ### for -/
/-- slot j is pinned -/
def pin (φ : Fs) : Option Nat → Fs
  | none => φ
  | some j => match φ[j]? with
    | some (.ow d) => φ.set j (.bw d)
    | _ => φ
def unpin (φ0 φ : Fs) : Option Nat → Fs
  | none => φ
  | some j => match φ0[j]? with
    | some (.ow _) => match φ[j]? with
      | some (.bw d) => φ.set j (.ow d)
      | _ => φ
    | _ => φ
def unpinB (φ0 : Fs) (j : Option Nat) : Br → Br
  | .nx φ => .nx (unpin φ0 φ j)
  | .rt o φ => .rt o (unpin φ0 φ j)
  | .bk φ => .bk (unpin φ0 φ j)
  | .ct φ => .ct (unpin φ0 φ j)
  | .ex c f φ => .ex c f (unpin φ0 φ j)
/-- the walked cell stays -/
def stays (ds : List D) (φ : Fs) : Option Nat → Prop
  | none => True
  | some j => φ[j]? = some (.bw (.lst ds))
noncomputable def forGo (g : FG) (b : FS) (all : List D) (src : Option Nat) : List D → Fs → Option Br
  | [], φ => some (.nx φ)
  | d :: ds, φ => match g d φ with
    | none => none
    | some φ1 => match b φ1 with
      | some (.nx φ2) => if stays all φ2 src then forGo g b all src ds φ2 else none
      | some (.ct φ2) => if stays all φ2 src then forGo g b all src ds φ2 else none
      | some (.bk φ2) => some (.nx φ2)
      | r => r
noncomputable def fFor (i : FI) (g : FG) (b : FS) : FS := fun φ => match i φ with
  | none => none
  | some (.ex c f) => some (.ex c f φ)
  | some (.ok ds src) => (forGo g b ds src ds (pin φ src)).map (unpinB φ src)
end
end Lv

/-! F: loops, comprehensions -/
namespace Lv
open PySem L2
open Evl (Ex)
open Classical
section
variable {K : PySem.W.Frag} {G G0 G1 G2 G3 H H0 H1 H2 H3 : Hp} {ρ ρ1 : Ro} {cs xs : Cs} {ta tb te tx : TE} {tt tu : TT} {d d' e x y z : D} {W : WX} {bs : List Addr} {ε : Xe} {t u : TS} {A B C : FE} {tr : TA} {T : FA} {as : Nat → Addr} {φ φ' φ1 φ2 : Fs} {F M N : FS}
theorem ro_kind {i : Nat} {s s' : Sl} (hi : φ[i]? = some s) (h : s'.ro (as i) = s.ro (as i)) : roOf as 0 (φ.set i s') = roOf as 0 φ := by
  rw [roOf_set (k := 0) (i := i), Nat.zero_add, h]
  apply List.ext_getElem?
  intro j
  by_cases hj : i = j
  · subst hj
    rw [List.getElem?_set, if_pos rfl, roOf_get, hi, Nat.zero_add, roOf_len, if_pos (List.getElem?_eq_some_iff.mp hi).1]
    rfl
  · rw [List.getElem?_set_ne hj]
theorem cs_kind {i : Nat} {s s' : Sl} (hi : φ[i]? = some s) (h : ∀ d, (s' = .ow d ∨ s' = .bw d) → (s = .ow d ∨ s = .bw d)) {c : Addr × D} (hc : c ∈ csOf as 0 (φ.set i s')) : c ∈ csOf as 0 φ := by
  obtain ⟨j, d, hd, rfl⟩ := mem_csOf.mp hc
  refine mem_csOf.mpr ⟨j, d, ?_, rfl⟩
  rcases hd with hd | hd
  · rcases set_at hd with ⟨rfl, e⟩ | ⟨_, h'⟩
    · rcases h d (.inl e.symm) with z | z
      · exact .inl (by rw [hi, z])
      · exact .inr (by rw [hi, z])
    · exact .inl h'
  · rcases set_at hd with ⟨rfl, e⟩ | ⟨_, h'⟩
    · rcases h d (.inr e.symm) with z | z
      · exact .inl (by rw [hi, z])
      · exact .inr (by rw [hi, z])
    · exact .inr h'
/-- the same cells, one of them told apart otherwise -/
theorem XO.rekind {bo bo' : Nat → Addr} {i : Nat} {s s' : Sl} (xo : XO { ε with bo := bo } bs as φ xs) (hi : φ[i]? = some s) (hc : s.isC = true) (hx : s'.isX = false) (ho : ∀ d, s' = .ow d → as i ∉ bs) (hb : ∀ d, s' = .bw d → as i = bo' i) (hn : ∀ j, j ≠ i → bo' j = bo j) : XO { ε with bo := bo' } bs as (φ.set i s') xs := by
  refine ⟨fun j k a b h1 h2 h3 h4 => ?_, fun j a h1 h2 => ?_, xo.xn, fun j d h1 => ?_, fun j d h1 => ?_, fun j c f h1 => ?_⟩
  · have key : ∀ {j : Nat} {a : Sl}, (φ.set i s')[j]? = some a → a.isC = true → ∃ a', φ[j]? = some a' ∧ a'.isC = true := fun h1 h3 => by
      rcases set_at h1 with ⟨rfl, rfl⟩ | ⟨_, h⟩
      · exact ⟨s, hi, hc⟩
      · exact ⟨_, h, h3⟩
    obtain ⟨a', e1, e3⟩ := key h1 h3
    obtain ⟨b', e2, e4⟩ := key h2 h4
    exact xo.inj j k a' b' e1 e2 e3 e4
  · rcases set_at h1 with ⟨rfl, rfl⟩ | ⟨_, h⟩
    · exact xo.dj j s hi hc
    · exact xo.dj j a h h2
  · rcases set_at h1 with ⟨rfl, e⟩ | ⟨_, h⟩
    · exact ho d e.symm
    · exact xo.ow j d h
  · rcases set_at h1 with ⟨rfl, e⟩ | ⟨hne, h⟩
    · exact hb d e.symm
    · show as j = bo' j
      rw [hn j hne]
      exact xo.bw j d h
  · rcases set_at h1 with ⟨rfl, e⟩ | ⟨_, h⟩
    · subst e; cases hx
    · exact xo.xc j c f h
theorem PN.unpin {bo bo' : Nat → Addr} {j : Nat} {d0 : D} {φ0 : Fs} (h0 : φ0[j]? = some (.ow d0)) (hb : bo' j ∉ bs) (hn : ∀ i, i ≠ j → bo' i = bo i) (p : PN { ε with bo := bo' } bs xs φ2 ρ cs) : PN { ε with bo := bo } bs xs (unpin φ0 φ2 (some j)) ρ cs := by
  obtain ⟨as, xo, l, m⟩ := p
  unfold Lv.unpin
  simp only [h0]
  split
  · rename_i d hd
    have ej : as j = bo' j := xo.bw j d hd
    refine ⟨as, xo.rekind hd rfl rfl (fun _ _ => by rw [ej]; exact hb) (fun _ z => by cases z) (fun i hi => (hn i hi).symm), ?_, fun c hc => m c ?_⟩
    · rw [ro_kind (s' := .ow d) hd rfl]; exact l
    · rcases List.mem_append.mp hc with hc | hc
      · exact List.mem_append_left _ (cs_kind hd (fun d' z => by rcases z with z | z <;> cases z; exact .inr rfl) hc)
      · exact List.mem_append_right _ hc
  · rename_i hnb
    refine ⟨as, ⟨xo.inj, xo.dj, xo.xn, xo.ow, fun i d hi => ?_, xo.xc⟩, l, m⟩
    have hne : i ≠ j := fun z => by subst z; exact hnb d hi
    rw [xo.bw i d hi]
    exact hn i hne
theorem le_unpin {bo bo' : Nat → Addr} {j : Nat} {d0 : D} {φ0 : Fs} (h0 : φ0[j]? = some (.ow d0)) (hb : bo' j ∉ bs) (hn : ∀ i, i ≠ j → bo' i = bo i) (r : Br) : Po.le (poR { ε with bo := bo' } bs xs r) (poR { ε with bo := bo } bs xs (unpinB φ0 (some j) r)) := by
  cases r with
  | nx φ => exact ⟨fun _ _ k => k.unpin h0 hb hn, fun _ _ k => k.elim, fun _ _ k => k.elim, fun _ _ k => k.elim, fun _ _ _ _ k => k.elim⟩
  | bk φ => exact ⟨fun _ _ k => k.elim, fun _ _ k => k.elim, fun _ _ k => k.unpin h0 hb hn, fun _ _ k => k.elim, fun _ _ _ _ k => k.elim⟩
  | ct φ => exact ⟨fun _ _ k => k.elim, fun _ _ k => k.elim, fun _ _ k => k.elim, fun _ _ k => k.unpin h0 hb hn, fun _ _ _ _ k => k.elim⟩
  | ex c f φ => exact ⟨fun _ _ k => k.elim, fun _ _ k => k.elim, fun _ _ k => k.elim, fun _ _ k => k.elim, fun _ _ _ _ k => ⟨k.1, k.2.1, k.2.2.unpin h0 hb hn⟩⟩
  | rt o φ =>
    refine ⟨fun _ _ k => k.elim, fun d cs k => ⟨k.1, fun i d hd hbs => ?_⟩, fun _ _ k => k.elim, fun _ _ k => k.elim, fun _ _ _ _ k => k.elim⟩
    unfold Lv.unpin at hd
    simp only [h0] at hd
    split at hd
    · rename_i d2 h2
      rcases set_at hd with ⟨_, z⟩ | ⟨hne, h⟩
      · cases z
      · have e : bo' i = bo i := hn i hne
        have := k.2 i d h (by show bo' i ∈ bs; rw [e]; exact hbs)
        rw [show ({ ε with bo := bo' } : Xe).bo i = bo i from e] at this
        exact this
    · rename_i hnb
      have hne : i ≠ j := fun z => by subst z; exact hnb d hd
      have e : bo' i = bo i := hn i hne
      have := k.2 i d hd (by show bo' i ∈ bs; rw [e]; exact hbs)
      rw [show ({ ε with bo := bo' } : Xe).bo i = bo i from e] at this
      exact this
theorem unpin_id {φ0 : Fs} {j : Nat} (h : ∀ d, φ0[j]? ≠ some (.ow d)) : Lv.unpin φ0 φ (some j) = φ := by
  cases hq : φ0[j]? with
  | none => simp [Lv.unpin, hq]
  | some s =>
    cases s with
    | ow d => exact absurd hq (h d)
    | _ => simp [Lv.unpin, hq]
theorem unpinB_id {φ0 : Fs} {j : Nat} (h : ∀ d, φ0[j]? ≠ some (.ow d)) (r : Br) : unpinB φ0 (some j) r = r := by
  cases r <;> simp only [unpinB, unpin_id h]
theorem unpinB_none {φ0 : Fs} (r : Br) : unpinB φ0 none r = r := by
  cases r <;> rfl
theorem EvG.le {g : TG} {js : List Nat} {ρ' : Ro} (h : EvG K g d ρ ρ1 js) (l : Lv.le ρ ρ') : EvG K g d ρ' ρ1 js := fun G H σ v s e r Q q => h G H σ v s (e.le l) r Q q
/-- the loop, its cell pinned -/
theorem sv_forR {wi : TI} {g : TG} {Fg : FG} {js : List Nat} {b : FS} {ds : List D} {src : Option Nat} {sc : Cs} {r : Br} {bo : Nat → Addr} (hg : GF K g Fg js) (hb : SF K W bs ε t b)
    (hi : EvI K wi ρ cs sc ds) (p : PN { ε with bo := bo } bs xs φ ρ cs) (hs : stays ds φ src) (hsc : ∀ c ∈ sc, ∃ j, src = some j ∧ c = (bo j, .lst ds)) (h : forGo Fg b ds src ds φ = some r) : Sv K W bs (tFor wi g t) ρ cs (poR { ε with bo := bo } bs xs r) := by
  refine sv_for hi (fun k ρ' cs' => ∃ φk, PN { ε with bo := bo } bs xs φk ρ' cs' ∧ forGo Fg b ds src (ds.drop k) φk = some r ∧ stays ds φk src) ⟨φ, p, by simpa using h, hs⟩ ?_ ?_ ?_
  · rintro k ρ' cs' ⟨φk, ⟨as, xo, l, m⟩, _, hst⟩ c hc
    obtain ⟨j, rfl, rfl⟩ := hsc c hc
    have hj : φk[j]? = some (.bw (.lst ds)) := hst
    exact m _ (xo.bwm j _ hj)
  · rintro k d ρ' cs' hd ⟨φk, ⟨as, xo, l, m⟩, hgo, hst⟩
    have hdr : ds.drop k = d :: ds.drop (k + 1) := by
      obtain ⟨hl, e⟩ := List.getElem?_eq_some_iff.mp hd
      rw [List.drop_eq_getElem_cons hl, e]
    rw [hdr, forGo] at hgo
    split at hgo
    · cases hgo
    · rename_i φ1 e1
      obtain ⟨a1, a2, a3, a4⟩ := hg _ _ _ e1
      have p1 : PN { ε with bo := bo } bs xs φ1 (roOf as 0 φ1) cs' := ⟨as, xo.sh a1, le.refl _, fun c hc => m c (by
        rcases List.mem_append.mp hc with hc | hc
        · exact List.mem_append_left _ (a1.csm hc)
        · exact List.mem_append_right _ hc)⟩
      refine ⟨_, js, (a4 as).le l, ?_⟩
      split at hgo
      · rename_i φ2 e2
        split at hgo
        · rename_i hst2
          exact (hb bo xs φ1 _ _ _ p1 e2).mono ⟨fun _ _ k => ⟨φ2, k, hgo, hst2⟩, fun _ _ k => k.elim, fun _ _ k => k.elim, fun _ _ k => k.elim, fun _ _ _ _ k => k.elim⟩
        · cases hgo
      · rename_i φ2 e2
        split at hgo
        · rename_i hst2
          exact (hb bo xs φ1 _ _ _ p1 e2).mono ⟨fun _ _ k => k.elim, fun _ _ k => k.elim, fun _ _ k => k.elim, fun _ _ k => ⟨φ2, k, hgo, hst2⟩, fun _ _ _ _ k => k.elim⟩
        · cases hgo
      · rename_i φ2 e2
        cases hgo
        exact (hb bo xs φ1 _ _ _ p1 e2).mono ⟨fun _ _ k => k.elim, fun _ _ k => k.elim, fun _ _ k => k, fun _ _ k => k.elim, fun _ _ _ _ k => k.elim⟩
      · rename_i n1 n2 n3
        refine (hb bo xs φ1 _ _ _ p1 hgo).mono ?_
        cases r with
        | nx φ' => exact absurd hgo (n1 φ')
        | ct φ' => exact absurd hgo (n2 φ')
        | bk φ' => exact absurd hgo (n3 φ')
        | rt o φ' => exact ⟨fun _ _ k => k.elim, fun _ _ k => k, fun _ _ k => k.elim, fun _ _ k => k.elim, fun _ _ _ _ k => k.elim⟩
        | ex c f φ' => exact ⟨fun _ _ k => k.elim, fun _ _ k => k.elim, fun _ _ k => k.elim, fun _ _ k => k.elim, fun _ _ _ _ k => k⟩
  · rintro ρ' cs' ⟨φk, p, hgo, _⟩
    rw [List.drop_length, forGo] at hgo
    cases hgo
    exact p
theorem sf_for {wi : TI} {g : TG} {I : FI} {Fg : FG} {js : List Nat} {b : FS} (hi : IF K W bs ε wi I) (hg : GF K g Fg js) (hb : SF K W bs ε t b) : SF K W bs ε (tFor wi g t) (fFor I Fg b) := fun bo xs φ r ρ cs p h => by
  unfold fFor at h
  split at h
  · cases h
  · rename_i c f e
    cases h
    refine sv_pn p fun as xo => fun G0 H0 G H σ E r en o => ?_
    refine (hi bo as xs φ _ xo e) G H σ r.wl en _ fun dd G3 H3 n3 x xn => ?_
    exact o.ex G3 H3 σ _ _ _ dd f (r.step n3) (en.mono n3.g) x (fun p hp => ⟨(r.none0 (xn p hp).1).1, (xn p hp).2.1, (r.none0 (xn p hp).1).2.2⟩) ⟨rfl, rfl, .mk xo⟩
  · rename_i ds src e
    cases h0 : forGo Fg b ds src ds (pin φ src) with
    | none => rw [h0] at h; cases h
    | some r0 =>
      rw [h0] at h
      cases h
      refine sv_pn p fun as xo => ?_
      rcases hi bo as xs φ _ xo e with ⟨rfl, hi⟩ | ⟨j, rfl, hc, hi⟩
      · rw [unpinB_none]
        exact sv_forR (src := none) hg hb hi (.mk xo) trivial (fun c hc => by simp at hc) h0
      · rcases cellOf_some hc with hj | hj
        · have h0' : forGo Fg b ds (some j) ds (φ.set j (.bw (.lst ds))) = some r0 := by
            have : pin φ (some j) = φ.set j (.bw (.lst ds)) := by unfold pin; simp only [hj]
            rw [← this]; exact h0
          have xo' := xo.rekind (bo' := fun k => if k = j then as j else bo k) (s' := .bw (.lst ds)) hj rfl rfl (fun _ z => by cases z) (fun _ _ => by simp) (fun i hi => by simp [hi])
          have p' : PN { ε with bo := fun k => if k = j then as j else bo k } bs xs (φ.set j (.bw (.lst ds))) (roOf as 0 φ) (csOf as 0 φ ++ xs) := ⟨as, xo', by rw [ro_kind (s' := .bw (.lst ds)) hj rfl]; exact le.refl _, fun c hc => by
            rcases List.mem_append.mp hc with hc | hc
            · exact List.mem_append_left _ (cs_kind hj (fun d' z => by rcases z with z | z <;> cases z; exact .inl rfl) hc)
            · exact List.mem_append_right _ hc⟩
          refine (sv_forR hg hb hi p' ?_ (fun c hc => ⟨j, rfl, ?_⟩) h0').mono (le_unpin hj ?_ (fun i hi => by simp [hi]) r0)
          · show (φ.set j (.bw (.lst ds)))[j]? = _
            rw [List.getElem?_set_self (List.getElem?_eq_some_iff.mp hj).1]
          · rw [List.mem_singleton] at hc
            simp [hc]
          · simp only [if_true]
            exact xo.ow j _ hj
        · have h0' : forGo Fg b ds (some j) ds φ = some r0 := by
            have : pin φ (some j) = φ := by unfold pin; simp only [hj]
            rw [← this]; exact h0
          rw [unpinB_id (fun d z => by rw [hj] at z; cases z)]
          refine sv_forR (src := some j) hg hb hi (.mk xo) hj (fun c hc => ⟨j, rfl, ?_⟩) h0'
          rw [List.mem_singleton] at hc
          rw [hc]
          exact congrArg (·, D.lst ds) (xo.bw j _ hj)
/-! ### while -/
def whGo (c : FE) (b : FS) : Nat → Fs → Option Br
  | 0, _ => none
  | n + 1, φ => match c φ with
    | some (.ok _ (.bl false)) => some (.nx φ)
    | some (.ok _ (.bl true)) => match b φ with
      | some (.nx φ2) => whGo c b n φ2
      | some (.ct φ2) => whGo c b n φ2
      | some (.bk φ2) => some (.nx φ2)
      | r => r
    | some (.ex c f) => some (.ex c f φ)
    | _ => none
theorem whGo_mono {c : FE} {b : FS} {r : Br} : ∀ {n m : Nat} {φ : Fs}, n ≤ m → whGo c b n φ = some r → whGo c b m φ = some r
  | 0, _, _, _, h => by cases h
  | n + 1, 0, _, h, _ => by omega
  | n + 1, m + 1, φ, hm, h => by
    rw [whGo] at h ⊢
    split at h
    · exact h
    · rename_i e
      split at h
      · exact whGo_mono (by omega) h
      · exact whGo_mono (by omega) h
      · exact h
      · exact h
    · exact h
    · cases h
noncomputable def fWhile (c : FE) (b : FS) : FS := fun φ => if h : ∃ n r, whGo c b n φ = some r then some (Classical.choose (Classical.choose_spec h)) else none
theorem fWhile_of {c : FE} {b : FS} {r : Br} {n : Nat} (h : whGo c b n φ = some r) : fWhile c b φ = some r := by
  have hx : ∃ n r, whGo c b n φ = some r := ⟨n, r, h⟩
  unfold fWhile
  rw [dif_pos hx]
  have h2 := Classical.choose_spec (Classical.choose_spec hx)
  have e1 := whGo_mono (Nat.le_max_left n (Classical.choose hx)) h
  have e2 := whGo_mono (Nat.le_max_right n (Classical.choose hx)) h2
  rw [e1] at e2
  exact e2.symm
theorem fWhile_some {c : FE} {b : FS} {r : Br} (h : fWhile c b φ = some r) : ∃ n, whGo c b n φ = some r := by
  unfold fWhile at h
  split at h
  · rename_i hx
    cases h
    exact ⟨_, Classical.choose_spec (Classical.choose_spec hx)⟩
  · cases h
theorem sf_while {b : FS} (hc : TFb K W bs ε tt A) (hb : SF K W bs ε t b) : SF K W bs ε (tWhile tt t) (fWhile A b) := fun bo xs φ r ρ cs p h => by
  obtain ⟨n, h⟩ := fWhile_some h
  intro G0 H0 G H σ E r0 en o
  refine ⟨fun m σ' H' => ∃ φm ρ' cs' G', Rl K G0 H0 bs G' H' cs' ∧ Env K G' σ' ρ' ∧ PN { ε with bo := bo } bs xs φm ρ' cs' ∧ whGo A b m φm = some r, ⟨n, φ, ρ, cs, G, r0, en, p, h⟩, fun m σ' H' hW => ?_⟩
  obtain ⟨φm, ρ', cs', G', r', e', ⟨as, xo, l, mm⟩, hm⟩ := hW
  have rx : Rl K G0 H0 bs G' H' (csOf as 0 φm ++ xs) := ⟨⟨r'.wl.sub, fun c hc => r'.wl.cell c (mm c hc), xo.nd⟩, r'.g0, r'.h0, r'.nw, fun c hc => r'.cl c (mm c hc), r'.bd, r'.b0⟩
  have ex := e'.le l
  cases m with
  | zero => cases hm
  | succ m =>
    rw [whGo] at hm
    split at hm
    · rename_i e
      cases hm
      exact (hc bo as xs φm _ xo e : EvT K tt _ _ false) G' H' σ' rx.wl ex _ fun G2 H2 n => o.nx G2 H2 σ' _ _ (rx.step n) (ex.mono n.g) (.mk xo)
    · rename_i e
      refine (hc bo as xs φm _ xo e : EvT K tt _ _ true) G' H' σ' rx.wl ex _ fun G2 H2 n => ?_
      have fin : ∀ r2, b φm = some r2 → (∀ φ2, r2 = .nx φ2 → whGo A b m φ2 = some r) → (∀ φ2, r2 = .ct φ2 → whGo A b m φ2 = some r) → (∀ φ2, r2 = .bk φ2 → r = .nx φ2) → (∀ o φ2, r2 = .rt o φ2 → r = .rt o φ2) → (∀ c f φ2, r2 = .ex c f φ2 → r = .ex c f φ2) →
          ∃ N : L2.St → Hp → Prop, (∀ σ2 H2, N σ2 H2 → ∃ m', m' < m + 1 ∧ ∃ φm ρ' cs' G', Rl K G0 H0 bs G' H2 cs' ∧ Env K G' σ2 ρ' ∧ PN { ε with bo := bo } bs xs φm ρ' cs' ∧ whGo A b m' φm = some r) ∧ t { E with nx := N, ct := N, bk := E.nx } σ' H2 := fun r2 e2 h1 h2 h3 h4 h5 => by
        refine ⟨fun σ2 H2 => ∃ φm ρ' cs' G', Rl K G0 H0 bs G' H2 cs' ∧ Env K G' σ2 ρ' ∧ PN { ε with bo := bo } bs xs φm ρ' cs' ∧ whGo A b m φm = some r, fun σ2 H2 h => ⟨m, by omega, h⟩, ?_⟩
        refine hb bo xs φm r2 _ _ (.mk xo) e2 G0 H0 G2 H2 σ' _ (rx.step n) (ex.mono n.g) ?_
        cases r2 with
        | nx φ2 => exact ⟨fun G H σ ρ cs r e k => ⟨φ2, ρ, cs, G, r, e, k, h1 φ2 rfl⟩, fun _ _ _ _ _ _ _ k => k.elim, fun _ _ _ _ _ _ _ k => k.elim, fun _ _ _ _ _ _ _ k => k.elim, fun _ _ _ _ _ _ _ _ _ _ _ _ k => k.elim⟩
        | ct φ2 => exact ⟨fun _ _ _ _ _ _ _ k => k.elim, fun _ _ _ _ _ _ _ k => k.elim, fun _ _ _ _ _ _ _ k => k.elim, fun G H σ ρ cs r e k => ⟨φ2, ρ, cs, G, r, e, k, h2 φ2 rfl⟩, fun _ _ _ _ _ _ _ _ _ _ _ _ k => k.elim⟩
        | bk φ2 =>
          cases h3 φ2 rfl
          exact ⟨fun _ _ _ _ _ _ _ k => k.elim, fun _ _ _ _ _ _ _ k => k.elim, fun G H σ ρ cs r e k => o.nx G H σ ρ cs r e k, fun _ _ _ _ _ _ _ k => k.elim, fun _ _ _ _ _ _ _ _ _ _ _ _ k => k.elim⟩
        | rt oo φ2 =>
          cases h4 oo φ2 rfl
          exact ⟨fun _ _ _ _ _ _ _ k => k.elim, fun G H v d cs r e k => o.rt G H v d cs r e k, fun _ _ _ _ _ _ _ k => k.elim, fun _ _ _ _ _ _ _ k => k.elim, fun _ _ _ _ _ _ _ _ _ _ _ _ k => k.elim⟩
        | ex c f φ2 =>
          cases h5 c f φ2 rfl
          exact ⟨fun _ _ _ _ _ _ _ k => k.elim, fun _ _ _ _ _ _ _ k => k.elim, fun _ _ _ _ _ _ _ k => k.elim, fun _ _ _ _ _ _ _ k => k.elim, fun G H σ ρ cs c dd fs r e x xn k => o.ex G H σ ρ cs c dd fs r e x xn k⟩
      split at hm
      · rename_i φ2 e2
        exact fin _ e2 (fun _ z => by cases z; exact hm) (fun _ z => by cases z) (fun _ z => by cases z) (fun _ _ z => by cases z) (fun _ _ _ z => by cases z)
      · rename_i φ2 e2
        exact fin _ e2 (fun _ z => by cases z) (fun _ z => by cases z; exact hm) (fun _ z => by cases z) (fun _ _ z => by cases z) (fun _ _ _ z => by cases z)
      · rename_i φ2 e2
        cases hm
        exact fin _ e2 (fun _ z => by cases z) (fun _ z => by cases z) (fun _ z => by cases z; rfl) (fun _ _ z => by cases z) (fun _ _ _ z => by cases z)
      · rename_i n1 n2 n3
        exact fin _ hm (fun φ2 z => absurd (z ▸ hm) (n1 φ2)) (fun φ2 z => absurd (z ▸ hm) (n2 φ2)) (fun φ2 z => absurd (z ▸ hm) (n3 φ2)) (fun _ _ z => z) (fun _ _ _ z => z)
    · rename_i c f e
      cases hm
      refine (hc bo as xs φm _ xo e) G' H' σ' rx.wl ex _ fun dd G3 H3 n3 x xn => ?_
      exact o.ex G3 H3 σ' _ _ _ dd f (rx.step n3) (ex.mono n3.g) x (fun p hp => ⟨(rx.none0 (xn p hp).1).1, (xn p hp).2.1, (rx.none0 (xn p hp).1).2.2⟩) ⟨rfl, rfl, .mk xo⟩
    · cases hm
end
end Lv

/-! F: forgetting, a def from its body, comprehensions, try, raise -/
namespace Lv
open PySem L2
open Evl (Ex)
open Classical
/-- slots are forgotten -/
def wipeS (φ : Fs) : List Nat → Fs
  | [] => φ
  | v :: vs => (wipeS φ vs).set v .no
def wipeB (js : List Nat) : Br → Br
  | .nx φ => .nx (wipeS φ js)
  | .bk φ => .bk (wipeS φ js)
  | .ct φ => .ct (wipeS φ js)
  | r => r
def fWipe (js : List Nat) (b : FS) : FS := fun φ => (b φ).map (wipeB js)
def startS (N : List Str) (ds : List D) : Fs := ds.map Sl.pl ++ List.replicate (N.length - ds.length) Sl.no
def brO : Br → Option Out
  | .nx _ => some (.ret .non)
  | .rt o _ => some o
  | .ex c f _ => some (.exc c f)
  | _ => none
def runF (N : List Str) (n : Nat) (b : FS) (ds : List D) : Option Out := if ds.length = n then (b (startS N ds)).bind brO else none
def initO (C : Addr) : Option Sl → Option Out
  | some (.bw (.obj C' fs)) => if C' = C then some (.ret (.obj C fs)) else none
  | _ => none
noncomputable def brI (C : Addr) : Br → Option Out
  | .nx φ => initO C φ[0]?
  | .rt (.ret .non) φ => initO C φ[0]?
  | .ex c f _ => some (.exc c f)
  | _ => none
noncomputable def runI (C : Addr) (N : List Str) (n : Nat) (b : FS) (ds : List D) : Option Out := if ds.length = n then (b (.bw (.obj C []) :: (ds.map Sl.pl ++ List.replicate (N.length - (ds.length + 1)) Sl.no))).bind (brI C) else none
section
variable {K : PySem.W.Frag} {G G0 G1 G2 G3 H H0 H1 H2 H3 : Hp} {ρ ρ1 : Ro} {cs xs : Cs} {ta tb te tx : TE} {tt tu : TT} {d d' e x y z : D} {W : WX} {bs : List Addr} {ε : Xe} {t u : TS} {A B C : FE} {tr : TA} {T : FA} {as : Nat → Addr} {φ φ' φ1 φ2 : Fs} {F M N : FS}
theorem sh_wipe : ∀ {vs : List Nat}, Sh φ (wipeS φ vs)
  | [] => Sh.refl _
  | v :: vs => (sh_wipe (vs := vs)).trans (sh_set rfl rfl)
theorem ro_wipe : ∀ {vs : List Nat}, roOf as 0 (wipeS φ vs) = wipeD (roOf as 0 φ) vs
  | [] => rfl
  | v :: vs => by
    rw [wipeS, roOf_set (k := 0) (i := v), ro_wipe (vs := vs), wipeD]
    rfl
theorem le_trans : ∀ {a b c : Ro}, le a b → le b c → le a c := fun h1 h2 => PN.sh.leT h1 h2
theorem le_wipeD : ∀ {vs : List Nat} {ρ : Ro}, le (wipeD ρ vs) ρ
  | [], ρ => le.refl _
  | v :: vs, ρ => le_trans (by rw [wipeD]; exact le_none) (le_wipeD (vs := vs))
theorem PN.wipe {vs : List Nat} (p : PN ε bs xs φ ρ cs) : PN ε bs xs (wipeS φ vs) ρ cs := p.sh sh_wipe fun as => by rw [ro_wipe]; exact le_wipeD
theorem sf_wipe {js : List Nat} (h : SF K W bs ε t F) : SF K W bs ε t (fWipe js F) := fun bo xs φ r ρ cs p hr => by
  unfold fWipe at hr
  cases hb : F φ with
  | none => rw [hb] at hr; cases hr
  | some r0 =>
    rw [hb] at hr
    cases hr
    refine (h bo xs φ r0 ρ cs p hb).mono ?_
    cases r0 with
    | nx φ' => exact ⟨fun _ _ k => k.wipe, fun _ _ k => k.elim, fun _ _ k => k.elim, fun _ _ k => k.elim, fun _ _ _ _ k => k.elim⟩
    | rt o φ' => exact ⟨fun _ _ k => k, fun _ _ k => k, fun _ _ k => k, fun _ _ k => k, fun _ _ _ _ k => k⟩
    | bk φ' => exact ⟨fun _ _ k => k.elim, fun _ _ k => k.elim, fun _ _ k => k.wipe, fun _ _ k => k.elim, fun _ _ _ _ k => k.elim⟩
    | ct φ' => exact ⟨fun _ _ k => k.elim, fun _ _ k => k.elim, fun _ _ k => k.elim, fun _ _ k => k.wipe, fun _ _ _ _ k => k.elim⟩
    | ex c f φ' => exact ⟨fun _ _ k => k, fun _ _ k => k, fun _ _ k => k, fun _ _ k => k, fun _ _ _ _ k => k⟩
/-! ### a def -/
theorem ro_pls : ∀ {ds : List D} {n k : Nat}, roOf as k (ds.map Sl.pl ++ List.replicate n Sl.no) = ds.map some ++ List.replicate n none
  | [], 0, k => rfl
  | [], n + 1, k => by
    have := ro_pls (ds := []) (n := n) (k := k + 1)
    simp only [List.map_nil, List.nil_append] at this ⊢
    rw [List.replicate_succ, roOf, this, List.replicate_succ]
    rfl
  | d :: ds, n, k => by
    rw [List.map_cons, List.cons_append, roOf, ro_pls (ds := ds)]
    rfl
theorem pls_at {ds : List D} {n i : Nat} {s : Sl} (h : (ds.map Sl.pl ++ List.replicate n Sl.no)[i]? = some s) : s.isC = false ∧ s.isX = false := by
  have hm := List.mem_of_getElem? h
  rcases List.mem_append.mp hm with hm | hm
  · obtain ⟨d, _, rfl⟩ := List.mem_map.mp hm
    exact ⟨rfl, rfl⟩
  · rw [(List.mem_replicate.mp hm).2]
    exact ⟨rfl, rfl⟩
theorem cs_pls : ∀ {φ : Fs} {k : Nat}, (∀ (i : Nat) (s : Sl), φ[i]? = some s → s.isC = false) → csOf as k φ = []
  | [], k, h => rfl
  | s :: φ, k, h => by
    rw [csOf, cs_pls (φ := φ) fun i s' hs => h (i + 1) s' (by simpa using hs)]
    have := h 0 s rfl
    cases s <;> first | rfl | cases this
theorem XO.none {φ : Fs} (h : ∀ (i : Nat) (s : Sl), φ[i]? = some s → s.isC = false ∧ s.isX = false) : XO ε bs as φ [] := ⟨fun i j s t h1 h2 h3 => (by rw [(h i s h1).1] at h3; cases h3), fun i s h1 h2 c hc => by simp at hc, by simp, fun i d h1 => (by have := (h i _ h1).1; cases this), fun i d h1 => (by have := (h i _ h1).1; cases this), fun i c f h1 => (by have := (h i _ h1).2; cases this)⟩
theorem sv_run {Nm : List Str} {n : Nat} {b : FS} {ds : List D} {o : Out} (h : SF K W [] ε t b) (hr : runF Nm n b ds = some o) : Sv K W [] t (startD Nm ds) [] (poOf o) := by
  unfold runF at hr
  split at hr
  · cases hb : b (startS Nm ds) with
    | none => rw [hb] at hr; cases hr
    | some r =>
      rw [hb] at hr
      have hr : brO r = some o := hr
      have p : PN ({ ε with bo := ε.bo } : Xe) [] [] (startS Nm ds) (startD Nm ds) [] := ⟨fun _ => ε.a, XO.none fun i s hs => pls_at hs, by
        rw [startS, ro_pls]; exact le.refl _, by
        rw [startS, cs_pls fun i s hs => (pls_at hs).1]; exact fun c hc => hc⟩
      refine (h ε.bo [] _ r _ _ p hb).mono ?_
      cases r with
      | nx φ => cases hr; exact ⟨fun _ _ _ => rfl, fun _ _ k => k.elim, fun _ _ k => k.elim, fun _ _ k => k.elim, fun _ _ _ _ k => k.elim⟩
      | rt o' φ =>
        cases hr
        refine ⟨fun _ _ k => k.elim, fun _ _ k => ?_, fun _ _ k => k.elim, fun _ _ k => k.elim, fun _ _ _ _ k => k.elim⟩
        have := k.1
        cases o <;> exact this
      | bk φ => cases hr
      | ct φ => cases hr
      | ex c f φ =>
        cases hr
        refine ⟨fun _ _ k => k.elim, fun _ _ k => k.elim, fun _ _ k => k.elim, fun _ _ k => k.elim, fun _ _ c' f' k => ?_⟩
        show Out.exc c f = Out.exc c' f'
        rw [k.1, k.2.1]
  · cases hr
theorem runF_len {Nm : List Str} {n : Nat} {b : FS} {ds : List D} {o : Out} (hr : runF Nm n b ds = some o) : ds.length = n := by
  unfold runF at hr
  split at hr
  · assumption
  · cases hr
theorem runI_len {C : Addr} {Nm : List Str} {n : Nat} {b : FS} {ds : List D} {o : Out} (hr : runI C Nm n b ds = some o) : ds.length = n := by
  unfold runI at hr
  split at hr
  · assumption
  · cases hr
theorem sv_runI {C a : Addr} {Nm : List Str} {n : Nat} {b : FS} {ds : List D} {o : Out} (h : SF K W [a] ε t b) (hr : runI C Nm n b ds = some o) : Sv K W [a] t (startD Nm (.any (.ref a) :: ds)) [(a, .obj C [])] (poI C a o) := by
  unfold runI at hr
  split at hr
  · cases hb : b (.bw (.obj C []) :: (ds.map Sl.pl ++ List.replicate (Nm.length - (ds.length + 1)) Sl.no)) with
    | none => rw [hb] at hr; cases hr
    | some r =>
      rw [hb] at hr
      have hr : brI C r = some o := hr
      have p : PN ({ ε with bo := fun _ => a } : Xe) [a] [] (.bw (.obj C []) :: (ds.map Sl.pl ++ List.replicate (Nm.length - (ds.length + 1)) Sl.no)) (startD Nm (.any (.ref a) :: ds)) [(a, .obj C [])] := by
        refine ⟨fun _ => a, ⟨fun i j s t h1 h2 h3 h4 _ => ?_, fun i s h1 h2 c hc => by simp at hc, by simp, fun i d h1 => ?_, fun i d h1 => rfl, fun i c f h1 => ?_⟩, ?_, ?_⟩
        · cases i with
          | succ i =>
            rw [List.getElem?_cons_succ] at h1
            rw [(pls_at h1).1] at h3; cases h3
          | zero =>
            cases j with
            | zero => rfl
            | succ j =>
              rw [List.getElem?_cons_succ] at h2
              rw [(pls_at h2).1] at h4; cases h4
        · cases i with
          | zero => cases h1
          | succ i =>
            rw [List.getElem?_cons_succ] at h1
            have := (pls_at h1).1; cases this
        · cases i with
          | zero => cases h1
          | succ i =>
            rw [List.getElem?_cons_succ] at h1
            have := (pls_at h1).2; cases this
        · rw [roOf, ro_pls]
          unfold startD
          rw [List.length_cons, List.map_cons, List.cons_append]
          exact le.refl _
        · rw [csOf, cs_pls fun i s hs => (pls_at hs).1]
          exact fun c hc => by simpa [Sl.cs] using hc
      have fin : ∀ (φ : Fs) o ρ cs, initO C φ[0]? = some o → PN ({ ε with bo := fun _ => a } : Xe) [a] [] φ ρ cs → madeI C a cs o := fun φ o ρ cs hi k => by
        obtain ⟨as, xo, _, m⟩ := k
        unfold initO at hi
        split at hi
        · rename_i C' fs h0
          split at hi
          · cases hi
            refine ⟨rfl, m _ ?_⟩
            rename_i hC
            have := xo.bwm 0 _ h0
            rw [hC] at this
            exact this
          · cases hi
        · cases hi
      have fin2 : ∀ (φ : Fs) o cs, initO C φ[0]? = some o → (∀ (i : Nat) (d : D), φ[i]? = some (.bw d) → a ∈ [a] → (a, d) ∈ cs) → madeI C a cs o := fun φ o cs hi k => by
        unfold initO at hi
        split at hi
        · rename_i C' fs h0
          split at hi
          · cases hi
            rename_i hC
            have := k 0 _ h0 (by simp)
            rw [hC] at this
            exact ⟨rfl, this⟩
          · cases hi
        · cases hi
      refine (h (fun _ => a) [] _ r _ _ p hb).mono ?_
      cases r with
      | nx φ => exact ⟨fun _ _ k => fin φ o _ _ hr k, fun _ _ k => k.elim, fun _ _ k => k.elim, fun _ _ k => k.elim, fun _ _ _ _ k => k.elim⟩
      | rt o' φ =>
        refine ⟨fun _ _ k => k.elim, fun d cs k => ?_, fun _ _ k => k.elim, fun _ _ k => k.elim, fun _ _ _ _ k => k.elim⟩
        unfold brI at hr
        split at hr
        · rename_i hz; cases hz
        · rename_i hz
          cases hz
          exact ⟨k.1, fin2 φ o cs hr k.2⟩
        · rename_i hz; cases hz
        · cases hr
      | bk φ => cases hr
      | ct φ => cases hr
      | ex c f φ =>
        cases hr
        refine ⟨fun _ _ k => k.elim, fun _ _ k => k.elim, fun _ _ k => k.elim, fun _ _ k => k.elim, fun _ _ c' f' k => ?_⟩
        show Out.exc c f = Out.exc c' f'
        rw [k.1, k.2.1]
  · cases hr
end
section
variable {P : Program} {w : World} {K : PySem.W.Frag} {mg : Str → Option Value} {base : Heap}
theorem fn_okF {x qual : Str} {st : Stmt} {f : Addr} {fd : FuncData} {N ps : List Str} {k n : Nat} {b : FS} (F : FunU K x qual st f fd) (S : FnScope N ps (defScope st)) (hn : ps.length = n)
    (hbody : ∀ (cdv : Value) (A' : Around) (outer : List PySem.Env) (s : Shared) (H : Hp) (E : XK), Room k (cxN P w K mg base N qual st f cdv A' outer s H E).A → L2N.Takes (cxN P w K mg base N qual st f cdv A' outer s H E) (Wd E) →
      PassesOwn (model P w) (cxN P w K mg base N qual st f cdv A' outer s H E).A (cxN P w K mg base N qual st f cdv A' outer s H E).env (cxN P w K mg base N qual st f cdv A' outer s H E).xe →
      ∃ t, PSs (cxN P w K mg base N qual st f cdv A' outer s H E) (defBody st) t ∧ ∀ ε, SF K (Wd E) [] ε t b) :
    FnOk P w K mg base (L2N.CX P w) (k + 1) f fd ps (spO K n (relF (runF N n b))) :=
  fn_okD F S hn fun cdv A' outer s H E hr tk po => by
    obtain ⟨t, h1, h2⟩ := hbody cdv A' outer s H E hr tk po
    exact ⟨t, h1, fun ds o _ hA => sv_run (h2 ⟨f, .ref f, none, fun _ => f⟩) hA⟩
theorem fn_okFH {x qual : Str} {st : Stmt} {f : Addr} {fd : FuncData} {N ps : List Str} {k n : Nat} {b : FS} (F : FunU K x qual st f fd) (S : FnScope N ps (defScope st)) (hn : ps.length = n)
    (hbody : ∀ (cdv : Value) (A' : Around) (outer : List PySem.Env) (s : Shared) (H : Hp) (E : XK) (p : Addr × Obj), L2H.RoomH k (L2H.cxH (L2N.CX P w) P w K mg base N qual (defScope st) f cdv A' outer s H E p).A →
      ∃ t, PSs (L2H.cxH (L2N.CX P w) P w K mg base N qual (defScope st) f cdv A' outer s H E p) (defBody st) t ∧ ∀ ε, SF K (Wd E) [] ε t b) :
    L2H.FnH P w K mg base (L2N.CX P w) (k + 1) f fd ps (spO K n (relF (runF N n b))) :=
  fn_okH F S hn fun cdv A' outer s H E p hr => by
    obtain ⟨t, h1, h2⟩ := hbody cdv A' outer s H E p hr
    exact ⟨t, h1, fun ds o _ hA => sv_run (h2 ⟨f, .ref f, none, fun _ => f⟩) hA⟩
theorem fn_okFI {x qual : Str} {st : Stmt} {f C : Addr} {fd : FuncData} {N ps : List Str} {k n : Nat} {b : FS} (F : FunU K x qual st f fd) (S : FnScope N ps (defScope st)) (hn : ps.length = n + 1)
    (hbody : ∀ (cdv : Value) (A' : Around) (outer : List PySem.Env) (s : Shared) (H : Hp) (E : XK), Room k (cxN P w K mg base N qual st f cdv A' outer s H E).A → L2N.Takes (cxN P w K mg base N qual st f cdv A' outer s H E) (Wd E) →
      PassesOwn (model P w) (cxN P w K mg base N qual st f cdv A' outer s H E).A (cxN P w K mg base N qual st f cdv A' outer s H E).env (cxN P w K mg base N qual st f cdv A' outer s H E).xe →
      ∃ t, PSs (cxN P w K mg base N qual st f cdv A' outer s H E) (defBody st) t ∧ ∀ bs ε, SF K (Wd E) bs ε t b) :
    FnOk P w K mg base (L2N.CX P w) (k + 1) f fd ps (spI K C n (relF (runI C N n b))) :=
  fn_okI F S hn fun cdv A' outer s H E hr tk po => by
    obtain ⟨t, h1, h2⟩ := hbody cdv A' outer s H E hr tk po
    exact ⟨t, h1, fun a ds o _ hA => sv_runI (h2 [a] ⟨f, .ref f, none, fun _ => f⟩) hA⟩
end
end Lv

/-! F: comprehensions, raise, try -/
namespace Lv
open PySem L2
open Evl (Ex)
open Classical
def okB (r : Option Rs) : Option Bool := match r with
  | some (.ok _ (.bl b)) => some b
  | _ => none
def okV (r : Option Rs) : Option D := match r with
  | some (.ok k d) => if k.fz = true then some d else none
  | _ => none
def lc1 (g : FG) (c el : FE) (φ : Fs) (d : D) : Option (Option D) := match g d φ with
  | none => none
  | some φ1 => match okB (c φ1) with
    | some true => (okV (el φ1)).map some
    | some false => some none
    | none => none
def lcGo (f : D → Option (Option D)) : List D → Option (List D)
  | [] => some []
  | d :: ds => match f d with
    | none => none
    | some o => (lcGo f ds).map (o.toList ++ ·)
def fLc (i : FI) (g : FG) (c el : FE) (vs : List Nat) : FE := fun φ => match i φ with
  | some (.ok ds _) => if ds.length ≤ 100000 then (lcGo (lc1 g c el (wipeS φ vs)) ds).map fun es => .ok .nw (.lst es) else none
  | some (.ex c f) => some (.ex c f)
  | none => none
def lcFl (f : D → Option (List D)) : List D → Option (List D)
  | [] => some []
  | d :: ds => match f d with
    | none => none
    | some es => (lcFl f ds).map (es ++ ·)
def lc2 (g : FG) (c : FE) (i1 : FI) (g1 : FG) (c1 el : FE) (vs1 : List Nat) (m : Nat) (φ : Fs) (d : D) : Option (List D) := match g d φ with
  | none => none
  | some φ1 => match okB (c φ1) with
    | some true => match i1 φ1 with
      | some (.ok ds none) => if ds.length ≤ m then lcGo (lc1 g1 c1 el (wipeS φ1 vs1)) ds else none
      | _ => none
    | some false => some []
    | none => none
def fLc2 (i : FI) (g : FG) (c : FE) (i1 : FI) (g1 : FG) (c1 el : FE) (vs vs1 : List Nat) (m : Nat) : FE := fun φ => match i φ with
  | some (.ok ds _) => if ds.length * m ≤ 100000 then (lcFl (lc2 g c i1 g1 c1 el vs1 m (wipeS φ vs)) ds).map fun es => .ok .nw (.lst es) else none
  | some (.ex c f) => some (.ex c f)
  | none => none
theorem lcGo_eq {f : D → Option (Option D)} {h : D → Option D} : ∀ {ds : List D}, (∀ d ∈ ds, f d = some (h d)) → lcGo f ds = some (ds.filterMap h)
  | [], _ => rfl
  | d :: ds, k => by
    rw [lcGo, k d List.mem_cons_self, lcGo_eq (ds := ds) fun d hd => k d (List.mem_cons_of_mem _ hd)]
    cases hh : h d <;> simp [List.filterMap_cons, hh]
theorem lcGo_map {α : Type} {f : D → Option (Option D)} {enc v : α → D} : ∀ {xs : List α}, (∀ x ∈ xs, f (enc x) = some (some (v x))) → lcGo f (xs.map enc) = some (xs.map v)
  | [], _ => rfl
  | x :: xs, k => by
    rw [List.map_cons, lcGo, k x List.mem_cons_self, lcGo_map (xs := xs) fun d hd => k d (List.mem_cons_of_mem _ hd)]
    rfl
theorem lcGo_filter {α : Type} {f : D → Option (Option D)} {enc v : α → D} {p : α → Bool} : ∀ {xs : List α}, (∀ x ∈ xs, f (enc x) = some (if p x = true then some (v x) else none)) → lcGo f (xs.map enc) = some ((xs.filter p).map v)
  | [], _ => rfl
  | x :: xs, k => by
    rw [List.map_cons, lcGo, k x List.mem_cons_self, lcGo_filter (xs := xs) fun d hd => k d (List.mem_cons_of_mem _ hd)]
    cases hp : p x <;> simp [hp]
theorem lcFl_map {α : Type} {f : D → Option (List D)} {enc : α → D} {v : α → List D} : ∀ {xs : List α}, (∀ x ∈ xs, f (enc x) = some (v x)) → lcFl f (xs.map enc) = some (xs.flatMap v)
  | [], _ => rfl
  | x :: xs, k => by
    rw [List.map_cons, lcFl, k x List.mem_cons_self, lcFl_map (xs := xs) fun d hd => k d (List.mem_cons_of_mem _ hd)]
    rfl
theorem lcGo_some {f : D → Option (Option D)} : ∀ {ds es : List D}, lcGo f ds = some es → (∀ d ∈ ds, ∃ o, f d = some o) ∧ es = (ds.filter fun d => (f d).join.isSome).map fun d => (f d).join.getD .non
  | [], es, h => by cases h; exact ⟨fun d hd => by simp at hd, rfl⟩
  | d :: ds, es, h => by
    rw [lcGo] at h
    cases hf : f d with
    | none => rw [hf] at h; cases h
    | some o =>
      rw [hf] at h
      cases hg : lcGo f ds with
      | none => simp only [hg] at h; cases h
      | some es' =>
        simp only [hg] at h
        cases h
        obtain ⟨h1, h2⟩ := lcGo_some hg
        refine ⟨fun x hx => ?_, ?_⟩
        · rcases List.mem_cons.mp hx with rfl | hx
          · exact ⟨o, hf⟩
          · exact h1 x hx
        · cases o with
          | none => rw [List.filter_cons_of_neg (by simp [hf])]; simpa using h2
          | some v => rw [List.filter_cons_of_pos (by simp [hf]), List.map_cons, ← h2]; simp [hf]
theorem lcFl_some {f : D → Option (List D)} : ∀ {ds es : List D}, lcFl f ds = some es → (∀ d ∈ ds, ∃ o, f d = some o) ∧ es = ds.flatMap fun d => (f d).getD []
  | [], es, h => by cases h; exact ⟨fun d hd => by simp at hd, rfl⟩
  | d :: ds, es, h => by
    rw [lcFl] at h
    cases hf : f d with
    | none => rw [hf] at h; cases h
    | some o =>
      rw [hf] at h
      cases hg : lcFl f ds with
      | none => simp only [hg] at h; cases h
      | some es' =>
        simp only [hg] at h
        cases h
        obtain ⟨h1, h2⟩ := lcFl_some hg
        refine ⟨fun x hx => ?_, ?_⟩
        · rcases List.mem_cons.mp hx with rfl | hx
          · exact ⟨o, hf⟩
          · exact h1 x hx
        · rw [List.flatMap_cons, ← h2, hf]; rfl
section
variable {K : PySem.W.Frag} {G G0 G1 G2 G3 H H0 H1 H2 H3 : Hp} {ρ ρ1 : Ro} {cs cs' xs : Cs} {ta tb te tx : TE} {tt tu : TT} {d d' e x y z : D} {W : WX} {bs : List Addr} {ε : Xe} {t u : TS} {A B C E : FE} {tr : TA} {T : FA} {as : Nat → Addr} {φ φ' φ1 φ2 : Fs} {F M N : FS}
theorem Wl.subc (w : Wl K G H cs) (h : ∀ c ∈ cs', c ∈ cs) (nd : (cs'.map (·.1)).Nodup) : Wl K G H cs' := ⟨w.sub, fun c hc => w.cell c (h c hc), nd⟩
theorem Ev.more (h : Ev K te ρ cs' d) (hs : ∀ c ∈ cs', c ∈ cs) (nd : (cs'.map (·.1)).Nodup) : Ev K te ρ cs d := fun G H σ w e Q q => h G H σ (w.subc hs nd) e Q q
theorem EvT.more {b : Bool} (h : EvT K tt ρ cs' b) (hs : ∀ c ∈ cs', c ∈ cs) (nd : (cs'.map (·.1)).Nodup) : EvT K tt ρ cs b := fun G H σ w e Q q => h G H σ (w.subc hs nd) e Q q
theorem EvI.more {wi : TI} {src : Cs} {ds : List D} (h : EvI K wi ρ cs' src ds) (hs : ∀ c ∈ cs', c ∈ cs) (nd : (cs'.map (·.1)).Nodup) : EvI K wi ρ cs src ds := fun G H σ w e R q => h G H σ (w.subc hs nd) e R fun J G2 H2 n hc its => q J G2 H2 n (fun c h => hs c (hc c h)) its
theorem okB_some {r : Option Rs} {b : Bool} (h : okB r = some b) : ∃ k, r = some (.ok k (.bl b)) := by
  unfold okB at h
  split at h
  · cases h; exact ⟨_, rfl⟩
  · cases h
theorem okV_some {r : Option Rs} (h : okV r = some d) : ∃ k, r = some (.ok k d) ∧ k.fz = true := by
  unfold okV at h
  split at h
  · split at h
    · cases h; exact ⟨_, rfl, by assumption⟩
    · cases h
  · cases h
/-- what one turn gives, in terms of the rules -/
theorem lc1_ok {g : TG} {Fg : FG} {js : List Nat} {vs : List Nat} {o : Option D} (hg : GF K g Fg js) (hc : TF K W bs ε tt C) (he : EF K W bs ε te E) (xo : XO ε bs as φ xs) (h : lc1 Fg C E (wipeS φ vs) d = some o) :
    ∃ φ1, Fg d (wipeS φ vs) = some φ1 ∧ EvG K g d (wipeD (roOf as 0 φ) vs) (roOf as 0 φ1) js ∧ EvT K tt (roOf as 0 φ1) (csOf as 0 φ ++ xs) o.isSome ∧ ∀ v, o = some v → Ev K te (roOf as 0 φ1) (csOf as 0 φ ++ xs) v := by
  unfold lc1 at h
  split at h
  · cases h
  · rename_i φ1 hφ
    obtain ⟨a1, a2, a3, a4⟩ := hg _ _ _ hφ
    have sh : Sh φ φ1 := sh_wipe.trans a1
    have xo1 := xo.sh sh
    have sub : ∀ c ∈ csOf as 0 φ1 ++ xs, c ∈ csOf as 0 φ ++ xs := fun c hc => by
      rcases List.mem_append.mp hc with hc | hc
      · exact List.mem_append_left _ (sh.csm hc)
      · exact List.mem_append_right _ hc
    refine ⟨φ1, hφ, by rw [← ro_wipe]; exact a4 as, ?_⟩
    split at h
    · rename_i hb
      obtain ⟨k, hk⟩ := okB_some hb
      cases hv : okV (E φ1) with
      | none => rw [hv] at h; cases h
      | some v =>
        rw [hv] at h
        cases h
        obtain ⟨k2, hk2, hf⟩ := okV_some hv
        exact ⟨(hc as xs φ1 _ xo1 hk : EvT K tt _ _ true).more sub xo1.nd, fun v' hv' => by cases hv'; exact ((he as xs φ1 _ xo1 hk2).ev hf).more sub xo1.nd⟩
    · rename_i hb
      obtain ⟨k, hk⟩ := okB_some hb
      cases h
      exact ⟨(hc as xs φ1 _ xo1 hk : EvT K tt _ _ false).more sub xo1.nd, fun v' hv' => by cases hv'⟩
    · cases h
theorem ef_lc {wi : TI} {g : TG} {I : FI} {Fg : FG} {js vs : List Nat} (hi : IF K W bs ε wi I) (hg : GF K g Fg js) (hj : ∀ j ∈ js, j ∈ vs) (hc : TF K W bs ε tt C) (he : EF K W bs ε te E) : EF K W bs ε (tLc wi g tt te vs) (fLc I Fg C E vs) := fun as xs φ r xo h => by
  unfold fLc at h
  split at h
  · rename_i ds src e
    split at h
    · rename_i hl
      cases hgo : lcGo (lc1 Fg C E (wipeS φ vs)) ds with
      | none => rw [hgo] at h; cases h
      | some es =>
        rw [hgo] at h
        cases h
        obtain ⟨h1, rfl⟩ := lcGo_some hgo
        have hI : ∃ src', EvI K wi (roOf as 0 φ) (csOf as 0 φ ++ xs) src' (ds.map id) := by
          rw [List.map_id]
          rcases hi ε.bo as xs φ _ xo e with ⟨_, h⟩ | ⟨j, _, _, h⟩
          · exact ⟨_, h⟩
          · exact ⟨_, h⟩
        obtain ⟨src', hI⟩ := hI
        have key : ∀ d ∈ ds, ∃ φ1, Fg d (wipeS φ vs) = some φ1 ∧ EvG K g d (wipeD (roOf as 0 φ) vs) (roOf as 0 φ1) js ∧ EvT K tt (roOf as 0 φ1) (csOf as 0 φ ++ xs) (lc1 Fg C E (wipeS φ vs) d).join.isSome ∧ ((lc1 Fg C E (wipeS φ vs) d).join.isSome = true → Ev K te (roOf as 0 φ1) (csOf as 0 φ ++ xs) ((lc1 Fg C E (wipeS φ vs) d).join.getD .non)) := fun d hd => by
          obtain ⟨o, ho⟩ := h1 d hd
          obtain ⟨φ1, k1, k2, k3, k4⟩ := lc1_ok hg hc he xo ho
          refine ⟨φ1, k1, k2, by rw [ho]; exact k3, fun hs => ?_⟩
          rw [ho] at hs ⊢
          cases o with
          | none => cases hs
          | some v => exact k4 v rfl
        have hlen : ds.length ≤ 100000 := hl
        refine EvN.m (en_lc (enc := id) (ρ' := fun d => match Fg d (wipeS φ vs) with | some φ1 => roOf as 0 φ1 | none => []) hI (fun d hd => ?_) hj (fun d hd => ?_) (fun d hd hs => ?_) hlen)
        · obtain ⟨φ1, k1, k2, _⟩ := key d hd
          simp only [k1]; exact k2
        · obtain ⟨φ1, k1, _, k3, _⟩ := key d hd
          simp only [k1]; exact k3
        · obtain ⟨φ1, k1, _, _, k4⟩ := key d hd
          simp only [k1]; exact k4 hs
    · cases h
  · rename_i c f e
    cases h
    exact fun G H σ w en Q q => (hi ε.bo as xs φ _ xo e) G H σ w en _ q
  · cases h
theorem lc2_ok {g g1 : TG} {wi1 : TI} {Fg Fg1 : FG} {I1 : FI} {C1 : FE} {tt1 : TT} {js js1 vs vs1 : List Nat} {m : Nat} {es : List D} (hg : GF K g Fg js) (hc : TF K W bs ε tt C) (hi1 : IF K W bs ε wi1 I1) (hg1 : GF K g1 Fg1 js1) (hc1 : TF K W bs ε tt1 C1) (he : EF K W bs ε te E) (xo : XO ε bs as φ xs) (h : lc2 Fg C I1 Fg1 C1 E vs1 m (wipeS φ vs) d = some es) :
    ∃ φ1, Fg d (wipeS φ vs) = some φ1 ∧ EvG K g d (wipeD (roOf as 0 φ) vs) (roOf as 0 φ1) js ∧ ∃ (b : Bool) (ds : List D), okB (C φ1) = some b ∧ EvT K tt (roOf as 0 φ1) (csOf as 0 φ ++ xs) b ∧ (b = false → es = []) ∧ (b = true → I1 φ1 = some (.ok ds none) ∧ ds.length ≤ m ∧ lcGo (lc1 Fg1 C1 E (wipeS φ1 vs1)) ds = some es ∧ EvI K wi1 (roOf as 0 φ1) (csOf as 0 φ ++ xs) [] ds ∧
      ∀ d1 o, lc1 Fg1 C1 E (wipeS φ1 vs1) d1 = some o → ∃ φ2, Fg1 d1 (wipeS φ1 vs1) = some φ2 ∧ EvG K g1 d1 (wipeD (roOf as 0 φ1) vs1) (roOf as 0 φ2) js1 ∧ EvT K tt1 (roOf as 0 φ2) (csOf as 0 φ ++ xs) o.isSome ∧ ∀ v, o = some v → Ev K te (roOf as 0 φ2) (csOf as 0 φ ++ xs) v) := by
  unfold lc2 at h
  split at h
  · cases h
  · rename_i φ1 hφ
    obtain ⟨a1, a2, a3, a4⟩ := hg _ _ _ hφ
    have sh : Sh φ φ1 := sh_wipe.trans a1
    have xo1 := xo.sh sh
    have sub : ∀ c ∈ csOf as 0 φ1 ++ xs, c ∈ csOf as 0 φ ++ xs := fun c hc => by
      rcases List.mem_append.mp hc with hc | hc
      · exact List.mem_append_left _ (sh.csm hc)
      · exact List.mem_append_right _ hc
    refine ⟨φ1, hφ, by rw [← ro_wipe]; exact a4 as, ?_⟩
    split at h
    · rename_i hb
      obtain ⟨k, hk⟩ := okB_some hb
      split at h
      · rename_i ds hI
        split at h
        · rename_i hm
          refine ⟨true, ds, hb, (hc as xs φ1 _ xo1 hk : EvT K tt _ _ true).more sub xo1.nd, fun z => (by cases z), fun _ => ⟨hI, hm, h, ?_, fun d1 o ho => ?_⟩⟩
          · rcases hi1 ε.bo as xs φ1 _ xo1 hI with ⟨_, h⟩ | ⟨j, z, _⟩
            · exact h.more sub xo1.nd
            · cases z
          · obtain ⟨φ2, b1, b2, b3, b4⟩ := lc1_ok hg1 hc1 he xo1 ho
            exact ⟨φ2, b1, b2, b3.more sub xo1.nd, fun v hv => (b4 v hv).more sub xo1.nd⟩
        · cases h
      · cases h
    · rename_i hb
      obtain ⟨k, hk⟩ := okB_some hb
      cases h
      exact ⟨false, [], hb, (hc as xs φ1 _ xo1 hk : EvT K tt _ _ false).more sub xo1.nd, fun _ => rfl, fun z => by cases z⟩
    · cases h
theorem flat_le {α : Type} {ys : α → List D} {m : Nat} : ∀ {xs : List α}, (∀ x ∈ xs, (ys x).length ≤ m) → (xs.flatMap ys).length ≤ xs.length * m
  | [], _ => by simp
  | x :: xs, h => by
    rw [List.flatMap_cons, List.length_append, List.length_cons, Nat.succ_mul]
    have := flat_le (xs := xs) fun y hy => h y (List.mem_cons_of_mem _ hy)
    have := h x List.mem_cons_self
    omega
theorem filter_flat {α : Type} {p : α → Bool} {f g : α → List D} : ∀ {xs : List α}, (∀ x ∈ xs, (p x = true → f x = g x) ∧ (p x = false → f x = [])) → xs.flatMap f = (xs.filter p).flatMap g
  | [], _ => rfl
  | x :: xs, h => by
    have ih := filter_flat (p := p) (f := f) (g := g) (xs := xs) fun y hy => h y (List.mem_cons_of_mem _ hy)
    obtain ⟨h1, h2⟩ := h x List.mem_cons_self
    cases hp : p x with
    | true => rw [List.filter_cons_of_pos hp, List.flatMap_cons, List.flatMap_cons, ih, h1 hp]
    | false => rw [List.filter_cons_of_neg (by rw [hp]; decide), List.flatMap_cons, ih, h2 hp, List.nil_append]
theorem ef_lc2 {wi wi1 : TI} {g g1 : TG} {I I1 : FI} {Fg Fg1 : FG} {C1 : FE} {tt1 : TT} {js js1 vs vs1 : List Nat} {m : Nat} (hi : IF K W bs ε wi I) (hg : GF K g Fg js) (hj : ∀ j ∈ js, j ∈ vs) (hc : TF K W bs ε tt C) (hi1 : IF K W bs ε wi1 I1) (hg1 : GF K g1 Fg1 js1) (hj1 : ∀ j ∈ js1, j ∈ vs1) (hc1 : TF K W bs ε tt1 C1) (he : EF K W bs ε te E) :
    EF K W bs ε (tLc2 wi g tt wi1 g1 tt1 te vs vs1) (fLc2 I Fg C I1 Fg1 C1 E vs vs1 m) := fun as xs φ r xo h => by
  unfold fLc2 at h
  split at h
  · rename_i ds src e
    split at h
    · rename_i hl
      cases hgo : lcFl (lc2 Fg C I1 Fg1 C1 E vs1 m (wipeS φ vs)) ds with
      | none => rw [hgo] at h; cases h
      | some es =>
        rw [hgo] at h
        cases h
        obtain ⟨h1, rfl⟩ := lcFl_some hgo
        have hI : ∃ src', EvI K wi (roOf as 0 φ) (csOf as 0 φ ++ xs) src' (ds.map id) := by
          rw [List.map_id]
          rcases hi ε.bo as xs φ _ xo e with ⟨_, h⟩ | ⟨j, _, _, h⟩
          · exact ⟨_, h⟩
          · exact ⟨_, h⟩
        obtain ⟨src', hI⟩ := hI
        let P1 : D → Fs := fun d => (Fg d (wipeS φ vs)).getD []
        let b1 : D → Bool := fun d => (okB (C (P1 d))).getD false
        let ys : D → List D := fun d => if b1 d = true then (match I1 (P1 d) with | some (.ok ds none) => ds | _ => []) else []
        let L : D → D → Option (Option D) := fun d => lc1 Fg1 C1 E (wipeS (P1 d) vs1)
        have key : ∀ d ∈ ds, EvG K g d (wipeD (roOf as 0 φ) vs) (roOf as 0 (P1 d)) js ∧ EvT K tt (roOf as 0 (P1 d)) (csOf as 0 φ ++ xs) (b1 d) ∧ (b1 d = false → (lc2 Fg C I1 Fg1 C1 E vs1 m (wipeS φ vs) d).getD [] = []) ∧ (ys d).length ≤ m ∧ (b1 d = true → lcGo (L d) (ys d) = lc2 Fg C I1 Fg1 C1 E vs1 m (wipeS φ vs) d ∧ EvI K wi1 (roOf as 0 (P1 d)) (csOf as 0 φ ++ xs) [] (ys d) ∧
            ∀ d1 o, L d d1 = some o → ∃ φ2, Fg1 d1 (wipeS (P1 d) vs1) = some φ2 ∧ EvG K g1 d1 (wipeD (roOf as 0 (P1 d)) vs1) (roOf as 0 φ2) js1 ∧ EvT K tt1 (roOf as 0 φ2) (csOf as 0 φ ++ xs) o.isSome ∧ ∀ v, o = some v → Ev K te (roOf as 0 φ2) (csOf as 0 φ ++ xs) v) := fun d hd => by
          obtain ⟨o, ho⟩ := h1 d hd
          obtain ⟨φ1, k1, k2, b, ds1, k3, k4, k5, k6⟩ := lc2_ok hg hc hi1 hg1 hc1 he xo ho
          have eP : P1 d = φ1 := by show (Fg d (wipeS φ vs)).getD [] = φ1; rw [k1]; rfl
          have eb : b1 d = b := by show (okB (C (P1 d))).getD false = b; rw [eP, k3]; rfl
          rw [ho]
          refine ⟨by rw [eP]; exact k2, by rw [eP, eb]; exact k4, fun hb => by rw [eb] at hb; rw [k5 hb]; rfl, ?_, fun hb => ?_⟩
          · show List.length (if b1 d = true then _ else []) ≤ m
            split
            · rename_i hb
              rw [eb] at hb
              rw [eP, (k6 hb).1]
              exact (k6 hb).2.1
            · exact Nat.zero_le _
          · have hb' := hb
            rw [eb] at hb
            obtain ⟨m1, m2, m3, m4, m5⟩ := k6 hb
            have ey : ys d = ds1 := by show (if b1 d = true then _ else []) = _; rw [if_pos hb', eP, m1]
            refine ⟨?_, by rw [eP, ey]; exact m4, ?_⟩
            · show lcGo (lc1 Fg1 C1 E (wipeS (P1 d) vs1)) (ys d) = _
              rw [eP, ey]; exact m3
            · show ∀ d1 o, lc1 Fg1 C1 E (wipeS (P1 d) vs1) d1 = some o → _
              rw [eP]; exact m5
        have hfin : (ds.flatMap fun d => (lc2 Fg C I1 Fg1 C1 E vs1 m (wipeS φ vs) d).getD []) = (ds.filter b1).flatMap fun d => ((ys d).filter fun x => (L d x).join.isSome).map fun x => (L d x).join.getD .non := by
          apply filter_flat
          intro d hd
          obtain ⟨_, _, k3, _, k5⟩ := key d hd
          refine ⟨fun hb => ?_, k3⟩
          obtain ⟨m1, _, _⟩ := k5 hb
          obtain ⟨o, ho⟩ := h1 d hd
          rw [ho] at m1 ⊢
          exact (lcGo_some m1).2
        rw [hfin]
        have inner : ∀ d ∈ ds, b1 d = true → ∀ x ∈ ys d, ∃ o, L d x = some o := fun d hd hb x hx => by
          obtain ⟨_, _, _, _, k5⟩ := key d hd
          obtain ⟨m1, _, _⟩ := k5 hb
          obtain ⟨o, ho⟩ := h1 d hd
          rw [ho] at m1
          exact (lcGo_some m1).1 x hx
        refine EvN.m (en_lc2 (enc := id) (enc1 := id) (src1 := []) (ρ1 := fun d => roOf as 0 (P1 d)) (ρ2 := fun d x => match Fg1 x (wipeS (P1 d) vs1) with | some φ2 => roOf as 0 φ2 | none => []) hI (fun d hd => (key d hd).1) hj (fun d hd => (key d hd).2.1) (fun d hd hb => ?_) (fun d hd hb x hx => ?_) hj1 (fun d hd hb x hx => ?_) (fun d hd hb x hx hs => ?_) ?_)
        · rw [List.map_id]; exact ((key d hd).2.2.2.2 hb).2.1
        · obtain ⟨o, ho⟩ := inner d hd hb x hx
          obtain ⟨φ2, n1, n2, _⟩ := ((key d hd).2.2.2.2 hb).2.2 x o ho
          simp only [n1]; exact n2
        · obtain ⟨o, ho⟩ := inner d hd hb x hx
          obtain ⟨φ2, n1, _, n3, _⟩ := ((key d hd).2.2.2.2 hb).2.2 x o ho
          simp only [n1, ho]; exact n3
        · obtain ⟨o, ho⟩ := inner d hd hb x hx
          obtain ⟨φ2, n1, _, _, n4⟩ := ((key d hd).2.2.2.2 hb).2.2 x o ho
          simp only [n1, ho] at hs ⊢
          cases o with
          | none => cases hs
          | some v => exact n4 v rfl
        · exact Nat.le_trans (flat_le fun d hd => (key d hd).2.2.2.1) hl
    · cases h
  · rename_i c f e
    cases h
    exact fun G H σ w en Q q => (hi ε.bo as xs φ _ xo e) G H σ w en _ q
  · cases h
/-! ### raise -/
def fRaiseF (C : Addr) (f : Str) (a : FE) : FS := fun φ => match a φ with
  | some (.ok k d) => if k.fz = true then some (.ex (.ref C) (some [(f, d)]) φ) else none
  | _ => none
theorem sf_raiseF {C : Addr} {f : Str} (T : OexC K C) (nf : PySem.W.findIn K (.ref C) f = some none) (ha : EFb K W bs ε te A) : SF K W bs ε (fun _ σ H => tMkO C (spXI K f) [] (tCons te tNil) σ H fun cls d H' => W cls d σ H') (fRaiseF C f A) := fun bo xs φ r ρ cs p h => by
  unfold fRaiseF at h
  split at h
  · rename_i k d e
    split at h
    · rename_i hk
      cases h
      exact sv_pn p fun as xo => sv_raiseF T nf (ea_cons ((ha bo as xs φ _ xo e).ev hk) ea_nil) ⟨rfl, rfl, .mk xo⟩
    · cases h
  · cases h
def fRaiseO (C : Addr) : FS := fun φ => some (.ex (.ref C) none φ)
theorem sf_raiseO {C : Addr} : SF K W bs ε (fun _ σ H => (fun (_ : L2.St) (H : Hp) (Q : XK) => Q (.ref C) none H) σ H fun cls d H' => W cls d σ H') (fRaiseO C) := fun bo xs φ r ρ cs p h => by
  cases h
  exact sv_pn p fun as xo => sv_raiseO ⟨rfl, rfl, .mk xo⟩
/-! ### try -/
def noX (φ : Fs) : Bool := φ.all fun s => !s.isX
def clrB (i : Nat) : Br → Option Br
  | .nx φ => if noX (φ.set i .no) = true then some (.nx (φ.set i .no)) else none
  | .bk φ => if noX (φ.set i .no) = true then some (.bk (φ.set i .no)) else none
  | .ct φ => if noX (φ.set i .no) = true then some (.ct (φ.set i .no)) else none
  | .rt o φ => some (.rt o φ)
  | .ex c f φ => if noX (φ.set i .no) = true then some (.ex c f (φ.set i .no)) else none
noncomputable def fTry (K : PySem.W.Frag) (c : Value) (i : Nat) (body suite : FS) : FS := fun φ => match body φ with
  | some (.ex cls f φ') => match PySem.W.exmOne K cls c with
    | some true => if noX φ' = true ∧ i < φ'.length then (suite (φ'.set i (.xc cls f))).bind (clrB i) else none
    | some false => some (.ex cls f φ')
    | none => none
  | r => r
theorem noX_at (h : noX φ = true) {i : Nat} {s : Sl} (hs : φ[i]? = some s) : s.isX = false := by
  have := List.all_eq_true.mp h s (List.mem_of_getElem? hs)
  simpa using this
/-- without exceptions at hand nothing hangs on them -/
theorem XO.noX {ε' : Xe} {xs' : Cs} (xo : XO ε bs as φ xs) (h : Lv.noX φ = true) (hb : ε'.bo = ε.bo) (hx : ∀ c ∈ xs', c ∈ xs) (nd : (xs'.map (·.1)).Nodup) : XO ε' bs as φ xs' := ⟨xo.inj, fun i s h1 h2 c hc => xo.dj i s h1 h2 c (hx c hc), nd, xo.ow, fun i d h1 => by rw [hb]; exact xo.bw i d h1, fun i c f h1 => by have := noX_at h h1; cases this⟩
theorem PN.noX {ε' : Xe} {xs' : Cs} (p : PN ε bs xs φ ρ cs) (h : Lv.noX φ = true) (hb : ε'.bo = ε.bo) (hx : ∀ c ∈ xs', c ∈ xs) (nd : (xs'.map (·.1)).Nodup) : PN ε' bs xs' φ ρ cs := by
  obtain ⟨as, xo, l, m⟩ := p
  exact ⟨as, xo.noX h hb hx nd, l, fun c hc => m c (by
    rcases List.mem_append.mp hc with hc | hc
    · exact List.mem_append_left _ hc
    · exact List.mem_append_right _ (hx c hc))⟩
theorem PN.xn (p : PN ε bs xs φ ρ cs) : (xs.map (·.1)).Nodup := by
  obtain ⟨as, xo, _, _⟩ := p
  exact xo.xn
theorem PN.clr {i : Nat} (p : PN ε bs xs φ ρ cs) : PN ε bs xs (φ.set i .no) (ρ.set i none) cs := by
  obtain ⟨as, xo, l, m⟩ := p
  have sh : Sh φ (φ.set i .no) := sh_set rfl rfl
  refine ⟨as, xo.sh sh, ?_, fun c hc => m c ?_⟩
  · rw [roOf_set (k := 0) (i := i)]
    exact leSet l
  · rcases List.mem_append.mp hc with hc | hc
    · exact List.mem_append_left _ (sh.csm hc)
    · exact List.mem_append_right _ hc
where
  leSet : ∀ {a b : Ro} {i : Nat}, le a b → le (a.set i none) (b.set i none)
    | [], [], i, h => h
    | none :: a, _ :: b, 0, h => h
    | none :: a, _ :: b, i + 1, h => leSet (a := a) (b := b) (i := i) h
    | some d :: a, x :: b, 0, h => h.2
    | some d :: a, x :: b, i + 1, h => ⟨h.1, leSet (a := a) (b := b) (i := i) h.2⟩
    | [], _ :: _, _, h => h.elim
    | none :: _, [], _, h => h.elim
    | some _ :: _, [], _, h => h.elim
theorem sf_try {tb : WX → TS} {ts : Addr → Value → Option Addr → TS} {c : Value} {i : Nat} {body suite : FS} (hb : ∀ W', SF K W' bs ε (tb W') body) (hs : ∀ a cls dd, SF K W bs ⟨a, cls, dd, ε.bo⟩ (ts a cls dd) suite) : SF K W bs ε (tTryN K c i tb ts W) (fTry K c i body suite) := fun bo xs φ r ρ cs p h => by
  unfold fTry at h
  split at h
  · rename_i cls f φ' e
    refine sv_tryN fun W' => (hb W' bo xs φ _ ρ cs p e).mono ⟨fun _ _ k => k.elim, fun _ _ k => k.elim, fun _ _ k => k.elim, fun _ _ k => k.elim, fun ρ2 cs2 cls' f' k => ?_⟩
    obtain ⟨rfl, rfl, pn⟩ := k
    split at h
    · rename_i he
      refine ⟨true, he, fun _ a dd hdd hfr => ?_, fun z => by cases z⟩
      split at h
      · rename_i hn
        obtain ⟨hnx, hil⟩ := hn
        cases hsu : suite (φ'.set i (.xc cls' f')) with
        | none => rw [hsu] at h; cases h
        | some r0 =>
          rw [hsu] at h
          have h : clrB i r0 = some r := h
          have pn2 : PN ({ a := a, cls := cls', dd := dd, bo := bo } : Xe) bs (exC dd f' xs) (φ'.set i (.xc cls' f')) (ρ2.set i (some (.any (.ref a)))) (exC dd f' cs2) := by
            obtain ⟨as, xo, l, m⟩ := pn
            have old : ∀ {j : Nat} {s : Sl}, (φ'.set i (.xc cls' f'))[j]? = some s → s.isC = true → j ≠ i ∧ φ'[j]? = some s := fun h1 h2 => by
              rcases set_at h1 with ⟨rfl, rfl⟩ | ⟨hne, h⟩
              · cases h2
              · exact ⟨hne, h⟩
            have xsub : ∀ c ∈ exC dd f' xs, c ∈ xs ∨ ∃ p fs, dd = some p ∧ f' = some fs ∧ c = (p, .xdc fs) := fun c hc => by
              unfold exC at hc
              split at hc
              · rcases List.mem_cons.mp hc with rfl | hc
                · exact .inr ⟨_, _, rfl, rfl, rfl⟩
                · exact .inl hc
              · exact .inl hc
            refine ⟨fun j => if j = i then a else as j, ⟨fun j k s t h1 h2 h3 h4 h5 => ?_, fun j s h1 h2 c hc => ?_, ?_, fun j d h1 => ?_, fun j d h1 => ?_, fun j c f h1 => ?_⟩, ?_, ?_⟩
            · obtain ⟨n1, e1⟩ := old h1 h3
              obtain ⟨n2, e2⟩ := old h2 h4
              simp only [n1, n2, if_false] at h5
              exact xo.inj j k s t e1 e2 h3 h4 h5
            · obtain ⟨n1, e1⟩ := old h1 h2
              simp only [n1, if_false]
              rcases xsub c hc with hc | ⟨p, fs, rfl, rfl, rfl⟩
              · exact xo.dj j s e1 h2 c hc
              · intro z
                have := (hfr p rfl).2
                cases s with
                | ow d => exact this (as j, d) (m _ (List.mem_append_left _ (mem_csOf.mpr ⟨j, d, .inl e1, by simp⟩))) z.symm
                | bw d => exact this (as j, d) (m _ (List.mem_append_left _ (mem_csOf.mpr ⟨j, d, .inr e1, by simp⟩))) z.symm
                | _ => cases h2
            · unfold exC
              split
              · rename_i p fs
                rw [List.map_cons, List.nodup_cons]
                refine ⟨fun hm => ?_, xo.xn⟩
                obtain ⟨c, h1, h2⟩ := List.mem_map.mp hm
                exact (hfr p rfl).2 c (m c (List.mem_append_right _ h1)) h2
              · exact xo.xn
            · obtain ⟨n1, e1⟩ := old h1 rfl
              simp only [n1, if_false]
              exact xo.ow j d e1
            · obtain ⟨n1, e1⟩ := old h1 rfl
              simp only [n1, if_false]
              exact xo.bw j d e1
            · rcases set_at h1 with ⟨rfl, hz⟩ | ⟨hne, h⟩
              · cases hz
                refine ⟨by simp, rfl, fun hf => ?_, fun fs hf => ?_⟩
                · subst hf
                  cases dd with
                  | none => rfl
                  | some p => cases hdd
                · subst hf
                  cases dd with
                  | none => cases hdd
                  | some p => exact ⟨p, rfl, List.mem_cons_self⟩
              · have := noX_at hnx h
                cases this
            · rw [roOf_set (k := 0) (i := i)]
              have e0 : roOf (fun j => if j = i then a else as j) 0 φ' = roOf (fun j => if j = i then a else as j) 0 φ' := rfl
              have : (roOf (fun j => if j = i then a else as j) 0 φ').set i (Sl.ro ((fun j => if j = i then a else as j) (0 + i)) (.xc cls' f')) = (roOf as 0 φ').set i (some (.any (.ref a))) := by
                rw [Nat.zero_add]
                simp only [if_true, Sl.ro]
                apply List.ext_getElem?
                intro j
                by_cases hj : i = j
                · subst hj
                  rw [List.getElem?_set, List.getElem?_set, roOf_len, roOf_len, if_pos rfl, if_pos rfl]
                · rw [List.getElem?_set_ne hj, List.getElem?_set_ne hj, roOf_get, roOf_get, Nat.zero_add, if_neg (fun z => hj z.symm)]
              rw [this]
              exact leS l
            · intro c hc
              have base : ∀ c, c ∈ csOf as 0 φ' ++ xs → c ∈ exC dd f' cs2 := fun c0 hc0 => by
                have hm0 := m c0 hc0
                unfold exC
                split
                · exact List.mem_cons_of_mem _ hm0
                · exact hm0
              rcases List.mem_append.mp hc with hc | hc
              · obtain ⟨j, d, hd, rfl⟩ := mem_csOf.mp hc
                rw [Nat.zero_add]
                have : j ≠ i ∧ (φ'[j]? = some (.ow d) ∨ φ'[j]? = some (.bw d)) := by
                  rcases hd with hd | hd
                  · exact ⟨(old hd rfl).1, .inl (old hd rfl).2⟩
                  · exact ⟨(old hd rfl).1, .inr (old hd rfl).2⟩
                simp only [this.1, if_false]
                exact base _ (List.mem_append_left _ (mem_csOf.mpr ⟨j, d, this.2, by simp⟩))
              · rcases xsub c hc with hc | ⟨p, fs, rfl, rfl, rfl⟩
                · exact base c (List.mem_append_right _ hc)
                · exact List.mem_cons_self
          have sub : ∀ c ∈ xs, c ∈ exC dd f' xs := fun c hc => by
            unfold exC
            split
            · exact List.mem_cons_of_mem _ hc
            · exact hc
          refine (hs a cls' dd bo (exC dd f' xs) _ r0 _ _ pn2 hsu).mono ?_
          cases r0 with
          | nx φ3 =>
            simp only [clrB] at h
            split at h
            · cases h
              exact ⟨fun _ _ k => (k.clr).noX (by assumption) rfl sub p.xn, fun _ _ k => k.elim, fun _ _ k => k.elim, fun _ _ k => k.elim, fun _ _ _ _ k => k.elim⟩
            · cases h
          | bk φ3 =>
            simp only [clrB] at h
            split at h
            · cases h
              exact ⟨fun _ _ k => k.elim, fun _ _ k => k.elim, fun _ _ k => (k.clr).noX (by assumption) rfl sub p.xn, fun _ _ k => k.elim, fun _ _ _ _ k => k.elim⟩
            · cases h
          | ct φ3 =>
            simp only [clrB] at h
            split at h
            · cases h
              exact ⟨fun _ _ k => k.elim, fun _ _ k => k.elim, fun _ _ k => k.elim, fun _ _ k => (k.clr).noX (by assumption) rfl sub p.xn, fun _ _ _ _ k => k.elim⟩
            · cases h
          | rt o φ3 =>
            cases h
            exact ⟨fun _ _ k => k.elim, fun _ _ k => k, fun _ _ k => k.elim, fun _ _ k => k.elim, fun _ _ _ _ k => k.elim⟩
          | ex c3 f3 φ3 =>
            simp only [clrB] at h
            split at h
            · cases h
              exact ⟨fun _ _ k => k.elim, fun _ _ k => k.elim, fun _ _ k => k.elim, fun _ _ k => k.elim, fun _ _ _ _ k => ⟨k.1, k.2.1, (k.2.2.sh (sh_set rfl rfl) fun as => by rw [roOf_set (k := 0) (i := i)]; exact le_none).noX (by assumption) rfl sub p.xn⟩⟩
            · cases h
      · cases h
    · rename_i he
      cases h
      exact ⟨false, he, fun z => (by cases z), fun _ => ⟨rfl, rfl, pn⟩⟩
    · cases h
  · rename_i hne
    refine sv_tryN fun W' => (hb W' bo xs φ _ ρ cs p h).mono ?_
    cases r with
    | nx φ' => exact ⟨fun _ _ k => k, fun _ _ k => k, fun _ _ k => k, fun _ _ k => k, fun _ _ _ _ k => k.elim⟩
    | rt o φ' => exact ⟨fun _ _ k => k, fun _ _ k => k, fun _ _ k => k, fun _ _ k => k, fun _ _ _ _ k => k.elim⟩
    | bk φ' => exact ⟨fun _ _ k => k, fun _ _ k => k, fun _ _ k => k, fun _ _ k => k, fun _ _ _ _ k => k.elim⟩
    | ct φ' => exact ⟨fun _ _ k => k, fun _ _ k => k, fun _ _ k => k, fun _ _ k => k, fun _ _ _ _ k => k.elim⟩
    | ex c f φ' => exact absurd h (hne c f φ')
where
  leS : ∀ {a b : Ro} {i : Nat} {d : D}, le a b → le (a.set i (some d)) (b.set i (some d))
    | [], [], i, d, h => h
    | none :: a, _ :: b, 0, d, h => ⟨rfl, h⟩
    | none :: a, _ :: b, i + 1, d, h => leS (a := a) (b := b) (i := i) h
    | some _ :: a, x :: b, 0, d, h => ⟨rfl, h.2⟩
    | some _ :: a, x :: b, i + 1, d, h => ⟨h.1, leS (a := a) (b := b) (i := i) h.2⟩
    | [], _ :: _, _, _, h => h.elim
    | none :: _, [], _, _, h => h.elim
    | some _ :: _, [], _, _, h => h.elim
/-! ### in an except suite -/
def clsVal : V → Option Value
  | .ref a => some (.ref a)
  | .ty n => some (.type n)
  | _ => none
noncomputable def fIsX (K : PySem.W.Frag) (i : Nat) (c : V) : FE := fun φ => match φ[i]? with
  | some (.xc (.ref C) f) => if Ec K C then (clsVal c).bind fun cv => (PySem.W.kitOne K (.ref C) cv).map fun b => .ok .pl (.bl b) else none
  | _ => none
theorem xc_ev {i : Nat} {c : Value} {f : Option (List (Str × D))} (xo : XO ε bs as φ xs) (h : φ[i]? = some (.xc c f)) : Ev K (tVar i) (roOf as 0 φ) cs (.any (.ref ε.a)) := ev_var (by
  rw [roOf_get, h, Nat.zero_add]
  show some (some (D.any (.ref (as i)))) = _
  rw [(xo.xc i c f h).1])
theorem ef_isX {i : Nat} {c : V} : EF K W bs ε (tCB (rIsX K ε.a ε.cls ε.dd) (tCons (tVar i) (tCons (tC c) tNil))) (fIsX K i c) := fun as xs φ r xo h => by
  unfold fIsX at h
  split at h
  · rename_i C f hi
    split at h
    · rename_i hec
      cases hc : clsVal c with
      | none => rw [hc] at h; cases h
      | some cv =>
        rw [hc] at h
        have h : (PySem.W.kitOne K (.ref C) cv).map (fun b => Rs.ok .pl (.bl b)) = some r := h
        cases hk : PySem.W.kitOne K (.ref C) cv with
        | none => rw [hk] at h; cases h
        | some b =>
          rw [hk] at h
          cases h
          obtain ⟨e1, e2, e3, e4⟩ := xo.xc i _ f hi
          rw [← e2]
          have hcv : ClsV c cv := by
            cases c with
            | ref a => cases hc; exact .own _
            | ty n => cases hc; exact .ty _
            | _ => cases hc
          have hcc : Ev K (tC c) (roOf as 0 φ) (csOf as 0 φ ++ xs) (.any c) := by
            cases c with
            | ref a => exact ev_cref
            | ty n => exact ev_cty
            | _ => cases hc
          refine (ev_cb (ear_cons (xc_ev xo hi).er (ear_cons hcc.er ear_nil)) (cd_isX hec hcv hk fun p hp => ?_)).m
          cases f with
          | none => rw [e3 rfl] at hp; cases hp
          | some fs =>
            obtain ⟨q, hq, hm⟩ := e4 fs rfl
            rw [hq] at hp
            cases hp
            exact ⟨fs, List.mem_append_right _ hm⟩
    · cases h
  · cases h
noncomputable def fXf (K : PySem.W.Frag) (i : Nat) (f : Str) : FE := fun φ => match φ[i]? with
  | some (.xc (.ref C) (some fs)) => if Ec K C ∧ PySem.W.findIn K (.ref C) f = some none then (fs.lookup f).map fun z => .ok .pl z else none
  | _ => none
theorem ef_xf {i : Nat} {f : Str} : EF K W bs ε (tXfU K ε.a ε.cls ε.dd f (tVar i)) (fXf K i f) := fun as xs φ r xo h => by
  unfold fXf at h
  split at h
  · rename_i C fs hi
    split at h
    · rename_i hh
      cases hz : fs.lookup f with
      | none => rw [hz] at h; cases h
      | some z =>
        rw [hz] at h
        cases h
        obtain ⟨e1, e2, e3, e4⟩ := xo.xc i _ _ hi
        obtain ⟨q, hq, hm⟩ := e4 fs rfl
        rw [← e2, hq]
        exact (ev_xf hh.1 hh.2 (xc_ev xo hi) (List.mem_append_right _ hm) hz).m
    · cases h
  · cases h
/-- a def called in an except suite -/
theorem ef_callH {n : Nat} {F : List D → Option Out} {E : L2.St → XK} (hn : ∀ ds o, F ds = some o → ds.length = n) (ht : AF K W bs ε tr T) : EF K W bs ε (tCallS (spO K n (relF F)) E tr) (fCall0 F T) := fun as xs φ r xo h => by
  rcases ab_some h with ⟨c, g, e, rfl⟩ | ⟨ks, e, h⟩
  · exact fun G H σ w en Q q => ht as xs φ _ xo e G H σ w en _ q
  obtain ⟨k, d, h0, rfl⟩ := noEx_some h
  obtain ⟨o, h1, h2, h3⟩ := callF_some h0
  exact fun G H σ w en Q q => (ht as xs φ _ xo e : EvAM K W bs tr _ _ (.ok ks)) G H σ w en _ fun vs G2 H2 n2 rk => call_k (w.step n2) rk (spO_x h1 (hn _ _ h1)) h2 (gets_step n2 (getsM_outE h3.symm q))
end
end Lv

/-! F: methods of lists, join, texts walked, properties, own `in`; the head's Hook -/
namespace Lv
open PySem L2
open Evl (Ex)
open Classical
def fFrz (i : Nat) (b : FS) : FS := fun φ => b (frzS i φ)
/-- the texts of a list of them -/
def strsF : List D → Option (List Str)
  | [] => some []
  | .str s :: ds => (strsF ds).map fun ys => s :: ys
  | _ => none
theorem strsF_some : ∀ {ds : List D} {ys : List Str}, strsF ds = some ys → ds = ys.map D.str
  | [], ys, h => by cases h; rfl
  | .str b :: ds, ys, h => by
    rw [strsF] at h
    cases hb : strsF ds with
    | none => rw [hb] at h; cases h
    | some ys' =>
      rw [hb] at h
      cases h
      rw [strsF_some hb]
      rfl
theorem strsF_map : ∀ {ys : List Str}, strsF (ys.map D.str) = some ys
  | [] => rfl
  | b :: ys => by rw [List.map_cons, strsF, strsF_map]; rfl
def joinF (s : Str) (ds : List D) : Option Rs := (strsF ds).bind fun ys => if (ys.map (·.length)).sum + ys.length * s.length ≤ 16777216 then some (.ok .pl (.str (Txt.join s ys))) else none
def fJoin (a b : FE) : FE := fun φ => rb (a φ) fun _ x => match x with
  | .str s => rb (b φ) fun _ y => match y with
    | .lst ds => joinF s ds
    | .tup ds => joinF s ds
    | _ => none
  | _ => none
def chsD (s : Str) : List D := s.cps.toList.map fun c => .str ⟨#[c]⟩
def iStrF (a : FE) : FI := fun φ => match a φ with
  | some (.ok _ (.str s)) => some (.ok (chsD s) none)
  | _ => none
section
variable {K : PySem.W.Frag} {G G0 G1 G2 G3 H H0 H1 H2 H3 : Hp} {ρ ρ1 : Ro} {cs cs' xs : Cs} {ta tb te tx : TE} {tt tu : TT} {d d' e x y z : D} {W : WX} {bs : List Addr} {ε : Xe} {t u : TS} {A B C E : FE} {tr : TA} {T : FA} {as : Nat → Addr} {φ φ' φ1 φ2 : Fs} {F M N : FS}
theorem sf_fz {i : Nat} (h : SF K W bs ε t F) : SF K W bs ε t (fFrz i F) := sf_frz h
theorem ev_joinT {a : Str} {ys : List Str} (h1 : Ev K ta ρ cs (.str a)) (h2 : EvR K te ρ cs (.tup (ys.map D.str))) (hz : (ys.map (·.length)).sum + ys.length * a.length ≤ 16777216) : Ev K (tM1 (rJoinK K) ta te) ρ cs (.str (Txt.join a ys)) := fun G H σ w e Q q =>
  h1 G H σ w e _ fun v G2 H2 n r => by
    cases r
    refine ⟨⟨a, rfl⟩, h2 G2 H2 σ (w.step n) (e.mono n.g) _ fun y G3 H3 n3 ry => ?_⟩
    obtain ⟨p, vs, rfl, hp, rv⟩ := ry.seqT ((w.step n).step n3)
    refine ⟨a, p, ys, rfl, rfl, .inr ?_, hz, q _ G3 H3 (n.trans n3) (.str _)⟩
    rw [← repL_strs rv]
    exact hp
theorem ef_join (ha : EF K W bs ε ta A) (hb : EF K W bs ε tb B) : EF K W bs ε (tM1 (rJoinK K) ta tb) (fJoin A B) := fun as xs φ r xo h => by
  rcases rb_some h with ⟨c, g, e, rfl⟩ | ⟨kd, x, e, h⟩
  · exact fun G H σ w en Q q => ha as xs φ _ xo e G H σ w en _ q
  split at h
  · rename_i s
    have hs := evm_str (ha as xs φ _ xo e)
    rcases rb_some h with ⟨c, g, e2, rfl⟩ | ⟨kd2, y, e2, h⟩
    · exact fun G H σ w en Q q => hs G H σ w en _ fun v G2 H2 n rv => by
        cases rv
        exact ⟨⟨s, rfl⟩, hb as xs φ _ xo e2 G2 H2 σ (w.step n) (en.mono n.g) _ (getsM_step n q)⟩
    have hy := (hb as xs φ _ xo e2).rd
    split at h
    · rename_i ds
      unfold joinF at h
      cases hd : strsF ds with
      | none => rw [hd] at h; cases h
      | some ys =>
        rw [hd] at h
        have h : (if (ys.map (·.length)).sum + ys.length * s.length ≤ 16777216 then some (Rs.ok .pl (.str (Txt.join s ys))) else none) = some r := h
        split at h
        · cases h
          rw [strsF_some hd] at hy
          exact (ev_join hs hy (by assumption)).m
        · cases h
    · rename_i ds
      unfold joinF at h
      cases hd : strsF ds with
      | none => rw [hd] at h; cases h
      | some ys =>
        rw [hd] at h
        have h : (if (ys.map (·.length)).sum + ys.length * s.length ≤ 16777216 then some (Rs.ok .pl (.str (Txt.join s ys))) else none) = some r := h
        split at h
        · cases h
          rw [strsF_some hd] at hy
          exact (ev_joinT hs hy (by assumption)).m
        · cases h
    · cases h
  · cases h
theorem ei_str {s : Str} (h : Ev K te ρ cs (.str s)) : EvI K (iStr te) ρ cs [] (chsD s) := fun G H σ w e R q => h G H σ w e _ fun v G2 H2 n r => by
  cases r
  refine ⟨s, rfl, q _ G2 H2 n no_src ⟨fun i d G3 H3 cs3 hd x w3 _ => ?_, fun i G3 H3 cs3 hi x w3 _ => ?_⟩⟩
  · unfold chsD at hd
    rw [List.getElem?_map] at hd
    cases hc : s.cps.toList[i]? with
    | none => rw [hc] at hd; cases hd
    | some c =>
      rw [hc] at hd
      cases hd
      refine ⟨(by have := (List.getElem?_eq_some_iff.mp hc).1; simpa using this : i < s.cps.size), fun y H' hy => ?_⟩
      obtain ⟨rfl, c', hc', rfl⟩ := hy
      rw [Array.getElem?_toList, hc'] at hc
      cases hc
      exact ⟨G3, Nx.refl w3.sub, .str _⟩
  · unfold chsD at hi
    rw [List.length_map] at hi
    show s.cps.size ≤ i
    simpa using hi
theorem if_str (ha : EFb K W bs ε te A) : IF K W bs ε (iStr te) (iStrF A) := fun bo as xs φ r xo h => by
  unfold iStrF at h
  split at h
  · rename_i k s e
    cases h
    exact .inl ⟨rfl, ei_str (evm_str (ha bo as xs φ _ xo e))⟩
  · cases h
/-! ### methods of lists that change them -/
theorem sv_ext {a : Addr} {ds es : List D} {P : Po} (hc : (a, .lst ds) ∈ cs) (ho : Ev K ta ρ cs (.any (.ref a))) (h : EvR K te ρ cs (.lst es)) (hz : ds.length + es.length ≤ 100000) (k : P.nx ρ (setC a (.lst (ds ++ es)) cs)) :
    Sv K W bs (tDrop (tBM K "list" rExtend ta (tCons te tNil))) ρ cs P := fun G0 H0 G H σ E r e o => ho G H σ r.wl e _ fun v G2 H2 n rv => by
  cases rv
  have r2 := r.step n
  obtain ⟨_, vs, hv, _⟩ := r2.wl.cell _ hc
  refine ⟨Or.inl ⟨rfl, vs, .inl (.inl hv)⟩, h G2 H2 σ r2.wl (e.mono n.g) _ fun y G3 H3 n3 ry => ?_⟩
  have r3 := r2.step n3
  obtain ⟨_, us, hu, ru⟩ := r3.wl.cell _ hc
  obtain ⟨b, zs, rfl, hb, rz⟩ := ry.seqL r3.wl
  refine ⟨a, b, us, zs, rfl, rfl, hu, hb, by rw [ru.length, rz.length]; exact sz hz, ?_⟩
  exact o.nx G3 _ σ ρ _ (r3.write (d' := .lst (ds ++ es)) hc ⟨us ++ zs, upd_same, ru.append rz⟩) ((e.mono n.g).mono n3.g) k
def fExt (i : Nat) (a : FE) : FS := fun φ => match cellOf φ i with
  | some (.lst ds) => match a φ with
    | some (.ok _ (.lst es)) => if ds.length + es.length ≤ 100000 then some (.nx (putCell φ i (.lst (ds ++ es)))) else none
    | _ => none
  | _ => none
theorem sf_ext {i : Nat} (ha : EFb K W bs ε te A) : SF K W bs ε (tDrop (tBM K "list" rExtend (tVar i) (tCons te tNil))) (fExt i A) := fun bo xs φ r ρ cs p h => by
  unfold fExt at h
  split at h
  · rename_i ds hi
    split at h
    · rename_i k es e
      split at h
      · cases h
        exact sv_pn p fun as xo => sv_ext (cell_mem hi) (cell_ev hi) (ha bo as xs φ _ xo e).rd (by assumption) (PN.put xo hi)
      · cases h
    · cases h
  · cases h
theorem sv_clear {a : Addr} {ds : List D} {P : Po} (hc : (a, .lst ds) ∈ cs) (ho : Ev K ta ρ cs (.any (.ref a))) (k : P.nx ρ (setC a (.lst []) cs)) :
    Sv K W bs (tDrop (tBM0 K "list" rClear ta)) ρ cs P := fun G0 H0 G H σ E r e o => ho G H σ r.wl e _ fun v G2 H2 n rv => by
  cases rv
  have r2 := r.step n
  obtain ⟨_, vs, hv, _⟩ := r2.wl.cell _ hc
  refine ⟨Or.inl ⟨rfl, vs, .inl (.inl hv)⟩, a, vs, rfl, rfl, hv, ?_⟩
  exact o.nx G2 _ σ ρ _ (r2.write (d' := .lst []) hc ⟨[], upd_same, .nil⟩) (e.mono n.g) k
def fClear (i : Nat) : FS := fun φ => match cellOf φ i with
  | some (.lst _) => some (.nx (putCell φ i (.lst [])))
  | _ => none
theorem sf_clear {i : Nat} : SF K W bs ε (tDrop (tBM0 K "list" rClear (tVar i))) (fClear i) := fun bo xs φ r ρ cs p h => by
  unfold fClear at h
  split at h
  · rename_i ds hi
    cases h
    exact sv_pn p fun as xo => sv_clear (cell_mem hi) (cell_ev hi) (PN.put xo hi)
  · cases h
theorem sv_rever {a : Addr} {ds : List D} {P : Po} (hc : (a, .lst ds) ∈ cs) (ho : Ev K ta ρ cs (.any (.ref a))) (k : P.nx ρ (setC a (.lst ds.reverse) cs)) :
    Sv K W bs (tDrop (tBM0 K "list" rReverse ta)) ρ cs P := fun G0 H0 G H σ E r e o => ho G H σ r.wl e _ fun v G2 H2 n rv => by
  cases rv
  have r2 := r.step n
  obtain ⟨_, vs, hv, rl⟩ := r2.wl.cell _ hc
  refine ⟨Or.inl ⟨rfl, vs, .inl (.inl hv)⟩, a, vs, rfl, rfl, hv, ?_⟩
  exact o.nx G2 _ σ ρ _ (r2.write (d' := .lst ds.reverse) hc ⟨vs.reverse, upd_same, rl.reverse⟩) (e.mono n.g) k
def fRever (i : Nat) : FS := fun φ => match cellOf φ i with
  | some (.lst ds) => some (.nx (putCell φ i (.lst ds.reverse)))
  | _ => none
theorem sf_rever {i : Nat} : SF K W bs ε (tDrop (tBM0 K "list" rReverse (tVar i))) (fRever i) := fun bo xs φ r ρ cs p h => by
  unfold fRever at h
  split at h
  · rename_i ds hi
    cases h
    exact sv_pn p fun as xo => sv_rever (cell_mem hi) (cell_ev hi) (PN.put xo hi)
  · cases h
/-- x.pop(i) as a statement -/
theorem sv_popAt {a : Addr} {ds : List D} {i : Int} {k : Nat} {P : Po} (hc : (a, .lst ds) ∈ cs) (ho : Ev K ta ρ cs (.any (.ref a))) (h : Ev K te ρ cs (.int i)) (hi : ixN ds.length i = some k) (hz : ds.length ≤ 100000) (kk : P.nx ρ (setC a (.lst (ds.eraseIdx k)) cs)) :
    Sv K W bs (tDrop (tBM K "list" rPopAt ta (tCons te tNil))) ρ cs P := fun G0 H0 G H σ E r e o => ho G H σ r.wl e _ fun v G2 H2 n rv => by
  cases rv
  have r2 := r.step n
  obtain ⟨_, vs, hv, _⟩ := r2.wl.cell _ hc
  refine ⟨Or.inl ⟨rfl, vs, .inl (.inl hv)⟩, h G2 H2 σ r2.wl (e.mono n.g) _ fun y G3 H3 n3 ry => ?_⟩
  cases ry
  have r3 := r2.step n3
  obtain ⟨_, us, hu, ru⟩ := r3.wl.cell _ hc
  obtain ⟨h1, h2, h3, h4⟩ := ixN_seq hi
  have hk : k < us.length := by rw [ru.length]; exact h2
  refine ⟨a, us, i, k, us[k], rfl, rfl, hu, by omega, by omega, by rw [ru.length]; exact h1, List.getElem?_eq_getElem hk, ?_⟩
  exact o.nx G3 _ σ ρ _ (r3.write (d' := .lst (ds.eraseIdx k)) hc ⟨us.eraseIdx k, upd_same, ru.eraseIdx k⟩) ((e.mono n.g).mono n3.g) kk
def fPopAt (i : Nat) (a : FE) : FS := fun φ => match cellOf φ i with
  | some (.lst ds) => match a φ with
    | some (.ok _ (.int j)) => match ixN ds.length j with
      | some k => if ds.length ≤ 100000 then some (.nx (putCell φ i (.lst (ds.eraseIdx k)))) else none
      | none => none
    | _ => none
  | _ => none
theorem sf_popAt {i : Nat} (ha : EFb K W bs ε te A) : SF K W bs ε (tDrop (tBM K "list" rPopAt (tVar i) (tCons te tNil))) (fPopAt i A) := fun bo xs φ r ρ cs p h => by
  unfold fPopAt at h
  split at h
  · rename_i ds hi
    split at h
    · rename_i k j e
      split at h
      · rename_i m hm
        split at h
        · cases h
          exact sv_pn p fun as xo => sv_popAt (cell_mem hi) (cell_ev hi) (evm_int (ha bo as xs φ _ xo e)) hm (by assumption) (PN.put xo hi)
        · cases h
      · cases h
    · cases h
  · cases h
/-- x.append(y.pop(i)) -/
theorem sv_appPop {a b : Addr} {ds es : List D} {j : Int} {k : Nat} {to : TE} {P : Po} (hab : a ≠ b) (hc : (a, .lst ds) ∈ cs) (hb : (b, .lst es) ∈ cs) (ho : Ev K ta ρ cs (.any (.ref a))) (ho2 : Ev K to ρ cs (.any (.ref b))) (h : Ev K te ρ cs (.int j)) (hi : ixN es.length j = some k) (hx : es[k]? = some x) (hz : ds.length < 100000) (hz2 : es.length ≤ 100000)
    (kk : P.nx ρ (setC a (.lst (ds ++ [x])) (setC b (.lst (es.eraseIdx k)) cs))) :
    Sv K W bs (tDrop (tBM K "list" rAppend ta (tCons (tBM K "list" rPopAt to (tCons te tNil)) tNil))) ρ cs P := fun G0 H0 G H σ E r e o => ho G H σ r.wl e _ fun v G2 H2 n rv => by
  cases rv
  have r2 := r.step n
  have e2 := e.mono n.g
  obtain ⟨_, vs, hv, _⟩ := r2.wl.cell _ hc
  refine ⟨Or.inl ⟨rfl, vs, .inl (.inl hv)⟩, ho2 G2 H2 σ r2.wl e2 _ fun v3 G3 H3 n3 rv3 => ?_⟩
  cases rv3
  have r3 := r2.step n3
  have e3 := e2.mono n3.g
  obtain ⟨_, vs3, hv3, _⟩ := r3.wl.cell _ hb
  refine ⟨Or.inl ⟨rfl, vs3, .inl (.inl hv3)⟩, h G3 H3 σ r3.wl e3 _ fun y G4 H4 n4 ry => ?_⟩
  cases ry
  have r4 := r3.step n4
  have e4 := e3.mono n4.g
  obtain ⟨_, us, hu, ru⟩ := r4.wl.cell _ hb
  obtain ⟨h1, h2, h3, h4⟩ := ixN_seq hi
  obtain ⟨vx, hvx, rx⟩ := ru.get hx
  refine ⟨b, us, j, k, vx, rfl, rfl, hu, by omega, by omega, by rw [ru.length]; exact h1, hvx, ?_⟩
  have r5 := r4.write (d' := .lst (es.eraseIdx k)) hb ⟨us.eraseIdx k, upd_same, ru.eraseIdx k⟩
  have hc5 : (a, .lst ds) ∈ setC b (.lst (es.eraseIdx k)) cs := setC_keep hc hab
  obtain ⟨_, us5, hu5, ru5⟩ := r5.wl.cell _ hc5
  refine ⟨a, us5, vx, rfl, rfl, hu5, by rw [ru5.length]; exact Evl.sz_lt hz, ?_⟩
  exact o.nx G4 _ σ ρ _ (r5.write (d' := .lst (ds ++ [x])) hc5 ⟨us5 ++ [vx], upd_same, ru5.append (.one rx)⟩) e4 kk
def fAppPop (i j : Nat) (a : FE) : FS := fun φ => if i = j then none else match cellOf φ i with
  | some (.lst ds) => match cellOf φ j with
    | some (.lst es) => match a φ with
      | some (.ok _ (.int n)) => match ixN es.length n with
        | some k => match es[k]? with
          | some x => if ds.length < 100000 ∧ es.length ≤ 100000 then some (.nx (putCell (putCell φ j (.lst (es.eraseIdx k))) i (.lst (ds ++ [x])))) else none
          | none => none
        | none => none
      | _ => none
    | _ => none
  | _ => none
theorem cellOf_put {i j : Nat} (hij : i ≠ j) : cellOf (putCell φ j d') i = cellOf φ i := by
  unfold putCell
  split
  · unfold cellOf; rw [List.getElem?_set_ne (fun z => hij z.symm)]
  · unfold cellOf; rw [List.getElem?_set_ne (fun z => hij z.symm)]
  · rfl
theorem PN.put2 {i j : Nat} (hij : i ≠ j) (xo : XO ε bs as φ xs) (h : cellOf φ i = some d) (h2 : cellOf φ j = some e) : PN ε bs xs (putCell (putCell φ j x) i y) (roOf as 0 φ) (setC (as i) y (setC (as j) x (csOf as 0 φ ++ xs))) := by
  have main : ∀ s s' : Sl, φ[j]? = some s → s.isC = true → s'.isC = true → s'.isX = false → (∀ d, s' = .ow d → ∃ d', s = .ow d') → (∀ d, s' = .bw d → ∃ d', s = .bw d') → s'.ro (as j) = s.ro (as j) → (∀ c, c ∈ s'.cs (as j) → c = (as j, x)) → (∀ c, c = (as j, x) → c ∈ s'.cs (as j)) → cellOf (φ.set j s') i = some d → PN ε bs xs (putCell (φ.set j s') i y) (roOf as 0 φ) (setC (as i) y (setC (as j) x (csOf as 0 φ ++ xs))) := fun s s' hj h1 h2 h3 h4 h5 h6 h7 h8 h9 => by
    have xo1 := xo.kind hj (fun _ => h1) h4 h5 h3
    have p1 := PN.put (d' := y) xo1 h9
    have ero : roOf as 0 (φ.set j s') = roOf as 0 φ := ro_kind hj h6
    rw [ero] at p1
    obtain ⟨as1, xo1', l1, m1⟩ := p1
    refine ⟨as1, xo1', l1, fun c hc => ?_⟩
    have hm := m1 c hc
    have nd1 := xo1.nd
    rcases mem_setC nd1 hm with rfl | ⟨hm, hne⟩
    · refine setC_mem (d := d) (setC_keep (cell_mem h) ?_)
      rcases cellOf_some h with hi | hi
      · exact fun z => hij (xo.inj i j _ s hi hj rfl h1 z)
      · exact fun z => hij (xo.inj i j _ s hi hj rfl h1 z)
    · refine setC_keep ?_ hne
      rcases List.mem_append.mp hm with hm | hm
      · obtain ⟨k, d2, hd, rfl⟩ := mem_csOf.mp hm
        rw [Nat.zero_add]
        by_cases hk : k = j
        · subst hk
          have : (as k, d2) = (as k, x) := by
            rcases hd with hd | hd
            · rcases set_at hd with ⟨_, e⟩ | ⟨z, _⟩
              · exact h7 _ (by rw [← e]; simp [Sl.cs])
              · exact absurd rfl z
            · rcases set_at hd with ⟨_, e⟩ | ⟨z, _⟩
              · exact h7 _ (by rw [← e]; simp [Sl.cs])
              · exact absurd rfl z
          rw [this]
          exact setC_mem (d := e) (cell_mem (by assumption))
        · have hd' : φ[k]? = some (.ow d2) ∨ φ[k]? = some (.bw d2) := by
            rcases hd with hd | hd
            · rcases set_at hd with ⟨z, _⟩ | ⟨_, z⟩
              · exact absurd z hk
              · exact .inl z
            · rcases set_at hd with ⟨z, _⟩ | ⟨_, z⟩
              · exact absurd z hk
              · exact .inr z
          refine setC_keep (List.mem_append_left _ (mem_csOf.mpr ⟨k, d2, hd', by simp⟩)) fun z => hk ?_
          rcases hd' with hd' | hd'
          · exact xo.inj k j _ s hd' hj rfl h1 z
          · exact xo.inj k j _ s hd' hj rfl h1 z
      · exact setC_keep (List.mem_append_right _ hm) (xo.dj j s hj h1 c hm)
  have hci : cellOf (putCell φ j x) i = some d := by rw [cellOf_put hij]; exact h
  unfold putCell at hci ⊢
  unfold cellOf at h2
  split at h2
  · rename_i d0 hj
    simp only [hj] at hci ⊢
    exact main _ _ hj rfl rfl rfl (fun _ _ => ⟨_, rfl⟩) (fun _ z => by cases z) rfl (fun c hc => by simpa [Sl.cs] using hc) (fun c hc => by simpa [Sl.cs] using hc) hci
  · rename_i d0 hj
    simp only [hj] at hci ⊢
    exact main _ _ hj rfl rfl rfl (fun _ z => by cases z) (fun _ _ => ⟨_, rfl⟩) rfl (fun c hc => by simpa [Sl.cs] using hc) (fun c hc => by simpa [Sl.cs] using hc) hci
  · cases h2
theorem sf_appPop {i j : Nat} (ha : EFb K W bs ε te A) : SF K W bs ε (tDrop (tBM K "list" rAppend (tVar i) (tCons (tBM K "list" rPopAt (tVar j) (tCons te tNil)) tNil))) (fAppPop i j A) := fun bo xs φ r ρ cs p h => by
  unfold fAppPop at h
  split at h
  · cases h
  · rename_i hij
    split at h
    · rename_i ds hi
      split at h
      · rename_i es hj
        split at h
        · rename_i k n e
          split at h
          · rename_i m hm
            split at h
            · rename_i x hx
              split at h
              · rename_i hz
                cases h
                refine sv_pn p fun as xo => ?_
                have hab : as i ≠ as j := fun z => by
                  rcases cellOf_some hi with h1 | h1 <;> rcases cellOf_some hj with h2 | h2 <;> exact hij (xo.inj i j _ _ h1 h2 rfl rfl z)
                exact sv_appPop hab (cell_mem hi) (cell_mem hj) (cell_ev hi) (cell_ev hj) (evm_int (ha bo as xs φ _ xo e)) hm hx hz.1 hz.2 (PN.put2 hij xo hi hj)
              · cases h
            · cases h
          · cases h
        · cases h
      · cases h
    · cases h
end
/-! ### a property -/
structure Px (P : Program) (w : World) (K : PySem.W.Frag) (mg : Str → Option Value) (base : Heap) (k : Nat) (C : Addr) (f : Str) (ps : List Str) (sp : Sp) : Prop where
  cl : Cls K C
  ex : ∃ p g fd, PropOf K C f p g ∧ FnOk P w K mg base (L2N.CX P w) k g fd ps sp ∧ Binds K fd ps []
theorem pe_propF {X : Cx} {k j : Nat} {C : Addr} {f : Str} {ps : List Str} {sp : Sp} {e : Expr} {ta : TE} {pos : Pos} (T : Px X.prog X.w X.K X.mg X.base j C f ps sp) (hr : Room k X.A) (he : PE X e ta) (hj : j + 1 ≤ k := by decide) (hab : attributeBase e f X.env (eval e X.env) = eval e X.env := by rfl) : PE X (.Attribute e f pos) (tProp C sp [] E0 ta) := by
  obtain ⟨p, g, fd, h1, h2, h3⟩ := T.ex
  exact pe_prop he T.cl h1 h2 (hr.mono hj) h3 .nil passN hab
noncomputable def fProp (C : Addr) (A : List D → Option Out) (a : FE) : FE := fun φ => rb (a φ) fun k d => match d with
  | .obj C' fs => if C' = C ∧ k.fz = true then noEx (callF A [(.pl, .obj C fs)]) else none
  | _ => none
section
variable {K : PySem.W.Frag} {G G0 G1 G2 G3 H H0 H1 H2 H3 : Hp} {ρ ρ1 : Ro} {cs cs' xs : Cs} {ta tb te tx : TE} {tt tu : TT} {d d' e x y z : D} {W : WX} {bs : List Addr} {ε : Xe} {t u : TS} {A B C E : FE} {tr : TA} {T : FA} {as : Nat → Addr} {φ φ' φ1 φ2 : Fs} {F M N : FS}
theorem ef_prop {C : Addr} {n : Nat} {F : List D → Option Out} {E : XK} (hn : ∀ ds o, F ds = some o → ds.length = n) (ha : EF K W bs ε ta A) : EF K W bs ε (tProp C (spO K n (relF F)) [] E ta) (fProp C F A) := fun as xs φ r xo h => by
  rcases rb_some h with ⟨c, g, e, rfl⟩ | ⟨kd, x, e, h⟩
  · exact fun G H σ w en Q q => ha as xs φ _ xo e G H σ w en _ q
  split at h
  · rename_i C' fs
    split at h
    · rename_i hh
      obtain ⟨rfl, hk⟩ := hh
      have ho := (ha as xs φ _ xo e).ev hk
      obtain ⟨k, d, h0, rfl⟩ := noEx_some h
      obtain ⟨o, h1, h2, h3⟩ := callF_some h0
      exact fun G H σ w en Q q => ho G H σ w en _ fun v G2 H2 n2 r => by
        cases r with
        | obj hg rf =>
          refine ⟨_, _, _, rfl, n2.s _ _ hg, ?_⟩
          exact call_k (w.step n2) (.cons (k := .pl) (fun _ => .obj hg rf) (.inl (.obj hg rf)) .nil) (spO_x h1 (hn _ _ h1)) h2 (gets_step n2 (getsM_outE h3.symm q))
    · cases h
  · cases h
/-! ### x in o, by the class's own method -/
noncomputable def fOwnIn (C : Addr) (A : List D → Option Out) (a b : FE) : FE := fun φ => rb (a φ) fun k x => rb (b φ) fun k2 y => match y with
  | .obj C' fs => if C' = C ∧ k.fz = true ∧ k2.fz = true then (match A [.obj C fs, x] with
    | some (.ret (.bl r)) => some (.ok .pl (.bl r))
    | _ => none) else none
  | _ => none
theorem ef_ownIn {C : Addr} {n : Nat} {F : List D → Option Out} {E : L2.St → XK} (hn : ∀ ds o, F ds = some o → ds.length = n) (ha : EF K W bs ε ta A) (hb : EF K W bs ε tb B) : EF K W bs ε (tOwnIn C (spO K n (relF F)) E ta tb) (fOwnIn C F A B) := fun as xs φ r xo h => by
  rcases rb_some h with ⟨c, g, e, rfl⟩ | ⟨kd, x, e, h⟩
  · exact fun G H σ w en Q q => ha as xs φ _ xo e G H σ w en _ q
  rcases rb_some h with ⟨c, g, e2, rfl⟩ | ⟨kd2, y, e2, h⟩
  · exact fun G H σ w en Q q => (ha as xs φ _ xo e).rd G H σ w en _ fun v G2 H2 n rv => hb as xs φ _ xo e2 G2 H2 σ (w.step n) (en.mono n.g) _ (getsM_step n q)
  split at h
  · rename_i C' fs
    split at h
    · rename_i hh
      obtain ⟨rfl, hk, hk2⟩ := hh
      split at h
      · rename_i r hr
        cases h
        exact (ev_ownIn ((ha as xs φ _ xo e).ev hk) ((hb as xs φ _ xo e2).ev hk2) (spO_ret hr (hn _ _ hr))).m
      · cases h
    · cases h
  · cases h
end
/-! ### the head -/
abbrev AlY : Type := He.AlD × Bool
def obsY (n : Nat) (fa : List He.Fa) (fn : List He5.DefA) (ex : PySem.W.Frag → Bool) (g : Addr → Option Obj) : AlY := (He5.obsA fa fn (He.frG g (He.asD g n)), ex (He.frG g (He.asD g n)))
structure SaysY (fa : List He.Fa) (fn : List He5.DefA) (ex : PySem.W.Frag → Bool) (K : PySem.W.Frag) : Prop where
  a : He5.SaysA fa fn K
  more : ex K = true
def hookY (n : Nat) (fa : List He.Fa) (fn : List He5.DefA) (ex : PySem.W.Frag → Bool) : PySem.W.Hook where
  α := AlY
  obs := fun s => obsY n fa fn ex s.heap.get?
  val := fun _ => (He5.valA fn, true)
  says := fun _ h => ∃ K : PySem.W.Frag, K.In h ∧ SaysY fa fn ex K
  of := fun _ _ e => ⟨_, He.frG_in, ⟨congrArg (fun z : AlY => z.1) e, congrArg (fun z : AlY => z.2) e⟩⟩
  keeps := fun _ _ _ ⟨K, hK, c⟩ k => ⟨K, PySem.W.Frag.In.keeps hK k, c⟩
theorem obsY_eq {n : Nat} {fa : List He.Fa} {fn : List He5.DefA} {ex : PySem.W.Frag → Bool} {g : Addr → Option Obj} {s : Shared} (h : ∀ a, g a = s.heap.get? a) : obsY n fa fn ex g = (hookY n fa fn ex).obs s := by
  have e : g = s.heap.get? := funext h
  rw [e] <;> rfl
/-- the getter of a property -/
def pgA (K : PySem.W.Frag) (C : Addr) (m : Str) : Addr := He5.wf K C "property" m
def propB (K : PySem.W.Frag) (C : Addr) (m : Str) : Bool := He.eqO (PySem.W.findIn K (.ref C) m) (some (some (.ref (He.ma K C m)))) && (He.eqO (PySem.W.specialIn K (.ref (He.ma K C m)) "__get__") (some (some (.builtin "property.__get__"))) && (decide (PySem.W.takesIn K (.ref (He.ma K C m)) = some true) &&
  (match PySem.W.recIn K (He.ma K C m) "property" with
    | some (.ref _ :: _) => true
    | _ => false)))
theorem propB_ok {K : PySem.W.Frag} {C : Addr} {m : Str} (h : propB K C m = true) : PropOf K C m (He.ma K C m) (pgA K C m) := by
  obtain ⟨h1, h⟩ := He.ba h
  obtain ⟨h2, h⟩ := He.ba h
  obtain ⟨h3, h4⟩ := He.ba h
  refine ⟨He.eqO_ok h1, He.eqO_ok h2, of_decide_eq_true h3, ?_⟩
  unfold pgA He5.wf
  split at h4
  · rename_i f r e
    exact ⟨r, by rw [e]⟩
  · cases h4
end Lv

namespace Lv
open PySem L2
theorem ps_fldK {X : Cx} (K : PySem.W.Frag) {o value : Expr} {f : Str} {ta tv : TE} {pos pos' : Pos} (ha : PE X o ta) (hv : PE X value tv) (hs : swapsWith value (some (.Attribute o f pos')) pos.line X.env = pure false) (h : X.K = K := by rfl) : PS X (.Assign [.Attribute o f pos'] value pos) (sFld K ta tv f) := h ▸ ps_fld ha hv hs
end Lv

/-! F: dicts; defs that change cells of the caller -/
namespace Lv
open PySem L2
open Evl (Ex)
open Classical
def key1 : D → Option L2.Key
  | .int i => some (.inl i)
  | .str s => some (.inr s)
  | _ => none
def keyL : List D → Option (List L2.Key)
  | [] => some []
  | d :: ds => match key1 d with
    | none => none
    | some k => (keyL ds).map (k :: ·)
def dLook : D → D → Option (Option D)
  | .dik es, k => (key1 k).map (valD es)
  | .dit es, .tup (k :: ks) => (keyL (k :: ks)).map (valD es)
  | _, _ => none
def dPut : D → D → D → Option D
  | .dik es, k, v => if es.length < 100000 then (key1 k).map fun k => .dik (putE es k v) else none
  | .dit es, .tup (k :: ks), v => if es.length < 100000 then (keyL (k :: ks)).map fun k => .dit (putE es k v) else none
  | _, _, _ => none
section
variable {K : PySem.W.Frag} {G G0 G1 G2 G3 H H0 H1 H2 H3 : Hp} {ρ ρ1 : Ro} {cs cs' xs : Cs} {ta tb te tx td ty tv : TE} {tt tu : TT} {d d' e x y z : D} {W : WX} {bs : List Addr} {ε : Xe} {t u : TS} {A B C E : FE} {tr : TA} {T : FA} {as : Nat → Addr} {φ φ' φ1 φ2 : Fs} {F M N : FS} {P : Po}
theorem key1_rep {v : V} {k : L2.Key} (h : key1 d = some k) (r : Rep K G v d) : v = kV k := by
  cases d with
  | int i => cases h; cases r; rfl
  | str s => cases h; cases r; rfl
  | _ => cases h
theorem keyL_rep : ∀ {ds : List D} {ks : List L2.Key} {vs : List V}, keyL ds = some ks → RepL K G vs ds → vs = ks.map kV
  | [], ks, vs, h, r => by cases h; cases r; rfl
  | d :: ds, ks, vs, h, r => by
    cases r with
    | cons r0 r1 =>
      rw [keyL] at h
      cases hk : key1 d with
      | none => rw [hk] at h; cases h
      | some k =>
        rw [hk] at h
        cases hl : keyL ds with
        | none => simp only [hl] at h; cases h
        | some ks' =>
          simp only [hl] at h
          cases h
          rw [key1_rep hk r0, keyL_rep hl r1]
          rfl
theorem RepC.ditC {v : V} {es : List (List L2.Key × D)} (w : Wl K G H cs) (r : RepC K G cs v (.dit es)) : ∃ a vs, v = .ref a ∧ H a = some (.dT vs) ∧ KRep K G vs es := by
  rcases r with r | ⟨a, rfl, c⟩
  · cases r with
    | dit h k r => exact ⟨_, _, rfl, w.sub _ _ h, k, r⟩
  · obtain ⟨_, vs, e, k, r⟩ := w.cell _ c
    exact ⟨a, vs, rfl, e, k, r⟩
theorem key_of {b : V} {k : D} {ks : List D} {kk : List L2.Key} (s : Ex G H) (r : Rep K G b (.tup (k :: ks))) (h : keyL (k :: ks) = some kk) : ∃ a, b = .ref a ∧ H a = some (.tup (kk.map kV)) := by
  cases r with
  | tup ht rl =>
    rcases ht with ht | ⟨rfl, _⟩
    · refine ⟨_, rfl, ?_⟩
      rw [← keyL_rep h rl]
      exact s _ _ ht
    · cases rl
theorem dget_ok {v b : V} {k : D} {o : Option D} (w : Wl K G H cs) (r : RepC K G cs v d) (rk : Rep K G b k) (h : dLook d k = some o) :
    ∃ a ov, v = .ref a ∧ DGet H a b ov ∧ ov.isSome = o.isSome ∧ ∀ x, o = some x → ∃ u, ov = some u ∧ Rep K G u x := by
  cases d with
  | dik es =>
    simp only [dLook] at h
    cases hk : key1 k with
    | none => rw [hk] at h; cases h
    | some kk =>
      rw [hk] at h
      cases h
      obtain ⟨a, vs, rfl, ha, kr⟩ := r.dikC w
      rw [key1_rep hk rk]
      refine ⟨a, valV vs kk, rfl, DGet.k ha, ?_⟩
      rcases kr.val (k := kk) with ⟨e1, e2⟩ | ⟨v, d2, e1, e2, rv⟩
      · rw [e1, e2]; exact ⟨rfl, fun x hx => by cases hx⟩
      · rw [e1, e2]; exact ⟨rfl, fun x hx => by cases hx; exact ⟨v, rfl, rv⟩⟩
  | dit es =>
    cases k with
    | tup kl =>
      cases kl with
      | nil => simp [dLook] at h
      | cons k ks =>
        simp only [dLook] at h
        cases hk : keyL (k :: ks) with
        | none => rw [hk] at h; cases h
        | some kk =>
          rw [hk] at h
          cases h
          obtain ⟨a, vs, rfl, ha, kr⟩ := r.ditC w
          obtain ⟨bb, rfl, hb⟩ := key_of w.sub rk hk
          refine ⟨a, valV vs kk, rfl, .inr ⟨vs, kk, bb, .inl ha, rfl, hb, rfl⟩, ?_⟩
          rcases kr.val (k := kk) with ⟨e1, e2⟩ | ⟨v, d2, e1, e2, rv⟩
          · rw [e1, e2]; exact ⟨rfl, fun x hx => by cases hx⟩
          · rw [e1, e2]; exact ⟨rfl, fun x hx => by cases hx; exact ⟨v, rfl, rv⟩⟩
    | _ => simp [dLook] at h
  | _ => simp [dLook] at h
theorem ev_dinU {k : D} {o : Option D} (hy : Ev K ty ρ cs k) (hd : EvR K td ρ cs d) (h : dLook d k = some o) : Ev K (tDIn ty td) ρ cs (.bl o.isSome) := fun G H σ w e Q q =>
  hy G H σ w e _ fun y G2 H2 n ry => hd G2 H2 σ (w.step n) (e.mono n.g) _ fun v G3 H3 n3 r => by
    obtain ⟨a, ov, rfl, hg, hi, _⟩ := dget_ok ((w.step n).step n3) r (ry.mono n3.g) h
    refine ⟨a, ov, rfl, hg, ?_⟩
    rw [hi]
    exact q _ G3 H3 (n.trans n3) (.bl _)
theorem ev_dninU {k : D} {o : Option D} (hy : Ev K ty ρ cs k) (hd : EvR K td ρ cs d) (h : dLook d k = some o) : Ev K (tDNotIn ty td) ρ cs (.bl (!o.isSome)) := fun G H σ w e Q q =>
  hy G H σ w e _ fun y G2 H2 n ry => hd G2 H2 σ (w.step n) (e.mono n.g) _ fun v G3 H3 n3 r => by
    obtain ⟨a, ov, rfl, hg, hi, _⟩ := dget_ok ((w.step n).step n3) r (ry.mono n3.g) h
    refine ⟨a, ov, rfl, hg, ?_⟩
    rw [hi]
    exact q _ G3 H3 (n.trans n3) (.bl _)
theorem ev_dgetU {k : D} (hd : EvR K td ρ cs d) (hy : Ev K ty ρ cs k) (h : dLook d k = some (some x)) : Ev K (tDGet td ty) ρ cs x := fun G H σ w e Q q =>
  hd G H σ w e _ fun v G2 H2 n r => hy G2 H2 σ (w.step n) (e.mono n.g) _ fun y G3 H3 n3 ry => by
    obtain ⟨a, ov, rfl, hg, _, hx⟩ := dget_ok ((w.step n).step n3) (r.mono n3) ry h
    obtain ⟨u, rfl, ru⟩ := hx x rfl
    exact ⟨a, u, rfl, hg, q u G3 H3 (n.trans n3) ru⟩
def fDIn (a b : FE) : FE := fun φ => rb (a φ) fun k x => rb (b φ) fun _ y => if k.fz = true then (dLook y x).map fun o => .ok .pl (.bl o.isSome) else none
def fDNin (a b : FE) : FE := fun φ => rb (a φ) fun k x => rb (b φ) fun _ y => if k.fz = true then (dLook y x).map fun o => .ok .pl (.bl (!o.isSome)) else none
def fDGet (a b : FE) : FE := fun φ => rb (a φ) fun _ x => rb (b φ) fun k y => if k.fz = true then (match dLook x y with
  | some (some z) => some (.ok .pl z)
  | _ => none) else none
theorem ef_din (ha : EF K W bs ε ta A) (hb : EF K W bs ε tb B) : EF K W bs ε (tDIn ta tb) (fDIn A B) := fun as xs φ r xo h => by
  rcases rb_some h with ⟨c, g, e, rfl⟩ | ⟨kd, x, e, h⟩
  · exact fun G H σ w en Q q => ha as xs φ _ xo e G H σ w en _ q
  rcases rb_some h with ⟨c, g, e2, rfl⟩ | ⟨kd2, y, e2, h⟩
  · exact fun G H σ w en Q q => (ha as xs φ _ xo e).rd G H σ w en _ fun v G2 H2 n rv => hb as xs φ _ xo e2 G2 H2 σ (w.step n) (en.mono n.g) _ (getsM_step n q)
  split at h
  · rename_i hk
    cases hl : dLook y x with
    | none => rw [hl] at h; cases h
    | some o =>
      rw [hl] at h
      cases h
      exact (ev_dinU ((ha as xs φ _ xo e).ev hk) (hb as xs φ _ xo e2).rd hl).m
  · cases h
theorem ef_dnin (ha : EF K W bs ε ta A) (hb : EF K W bs ε tb B) : EF K W bs ε (tDNotIn ta tb) (fDNin A B) := fun as xs φ r xo h => by
  rcases rb_some h with ⟨c, g, e, rfl⟩ | ⟨kd, x, e, h⟩
  · exact fun G H σ w en Q q => ha as xs φ _ xo e G H σ w en _ q
  rcases rb_some h with ⟨c, g, e2, rfl⟩ | ⟨kd2, y, e2, h⟩
  · exact fun G H σ w en Q q => (ha as xs φ _ xo e).rd G H σ w en _ fun v G2 H2 n rv => hb as xs φ _ xo e2 G2 H2 σ (w.step n) (en.mono n.g) _ (getsM_step n q)
  split at h
  · rename_i hk
    cases hl : dLook y x with
    | none => rw [hl] at h; cases h
    | some o =>
      rw [hl] at h
      cases h
      exact (ev_dninU ((ha as xs φ _ xo e).ev hk) (hb as xs φ _ xo e2).rd hl).m
  · cases h
theorem ef_dget (ha : EF K W bs ε ta A) (hb : EF K W bs ε tb B) : EF K W bs ε (tDGet ta tb) (fDGet A B) := fun as xs φ r xo h => by
  rcases rb_some h with ⟨c, g, e, rfl⟩ | ⟨kd, x, e, h⟩
  · exact fun G H σ w en Q q => ha as xs φ _ xo e G H σ w en _ q
  rcases rb_some h with ⟨c, g, e2, rfl⟩ | ⟨kd2, y, e2, h⟩
  · exact fun G H σ w en Q q => (ha as xs φ _ xo e).rd G H σ w en _ fun v G2 H2 n rv => hb as xs φ _ xo e2 G2 H2 σ (w.step n) (en.mono n.g) _ (getsM_step n q)
  split at h
  · rename_i hk
    split at h
    · rename_i z hl
      cases h
      exact (ev_dgetU (ha as xs φ _ xo e).rd ((hb as xs φ _ xo e2).ev hk) hl).m
    · cases h
  · cases h
def fDNewK : FE := fun _ => some (.ok .nw (.dik []))
def fDNewT : FE := fun _ => some (.ok .nw (.dit []))
theorem ef_dnewK : EF K W bs ε tDNewK fDNewK := fun as xs φ r xo h => by cases h; exact ed_newK.m rfl
theorem ef_dnewT : EF K W bs ε tDNewT fDNewT := fun as xs φ r xo h => by cases h; exact ed_newT.m rfl
theorem sv_dputU {a : Addr} {k : D} (hc : (a, d) ∈ cs) (ho : Ev K td ρ cs (.any (.ref a))) (hy : Ev K ty ρ cs k) (hv : Ev K tv ρ cs x) (hp : dPut d k x = some d') (kk : P.nx ρ (setC a d' cs)) :
    Sv K W bs (sDPut td ty tv) ρ cs P := fun G0 H0 G H σ E r e o => hv G H σ r.wl e _ fun v G2 H2 n rv => ho G2 H2 σ (r.step n).wl (e.mono n.g) _ fun x G3 H3 n3 rx => by
  cases rx
  refine hy G3 H3 σ ((r.step n).step n3).wl ((e.mono n.g).mono n3.g) _ fun y G4 H4 n4 ry => ?_
  have r4 := ((r.step n).step n3).step n4
  have rv4 := (rv.mono n3.g).mono n4.g
  cases d with
  | dik es =>
    simp only [dPut] at hp
    split at hp
    · rename_i hz
      cases hk : key1 k with
      | none => rw [hk] at hp; cases hp
      | some kk0 =>
        rw [hk] at hp
        cases hp
        obtain ⟨_, vs, hvs, kr⟩ := r4.wl.cell _ hc
        have kr : KRep K G4 vs es := kr
        rw [key1_rep hk ry]
        refine ⟨a, _, rfl, DPut.k hvs (by rw [kr.length]; exact Evl.sz_lt hz), ?_⟩
        exact o.nx G4 _ _ _ _ (r4.write (d' := .dik (putE es kk0 _)) hc ⟨_, upd_same, (kr.put rv4).1, (kr.put rv4).2⟩) (((e.mono n.g).mono n3.g).mono n4.g) kk
    · cases hp
  | dit es =>
    cases k with
    | tup kl =>
      cases kl with
      | nil => simp [dPut] at hp
      | cons k ks =>
        simp only [dPut] at hp
        split at hp
        · rename_i hz
          cases hk : keyL (k :: ks) with
          | none => rw [hk] at hp; cases hp
          | some kk0 =>
            rw [hk] at hp
            cases hp
            obtain ⟨_, vs, hvs, kr⟩ := r4.wl.cell _ hc
            have kr : KRep K G4 vs es := kr
            obtain ⟨bb, rfl, hb⟩ := key_of r4.wl.sub ry hk
            refine ⟨a, _, rfl, .inr ⟨vs, kk0, bb, hvs, rfl, hb, by rw [kr.length]; exact Evl.sz_lt hz, rfl⟩, ?_⟩
            exact o.nx G4 _ _ _ _ (r4.write (d' := .dit (putE es kk0 _)) hc ⟨_, upd_same, (kr.put rv4).1, (kr.put rv4).2⟩) (((e.mono n.g).mono n3.g).mono n4.g) kk
        · cases hp
    | _ => simp [dPut] at hp
  | _ => simp [dPut] at hp
/-- d[k] = v -/
def fDPut (i : Nat) (k v : FE) : FS := fun φ => match cellOf φ i with
  | some d => match okV (k φ), okV (v φ) with
    | some kd, some vd => (dPut d kd vd).map fun d' => .nx (putCell φ i d')
    | _, _ => none
  | _ => none
theorem sf_dput {i : Nat} (hk : EFb K W bs ε ty A) (hv : EFb K W bs ε tv B) : SF K W bs ε (sDPut (tVar i) ty tv) (fDPut i A B) := fun bo xs φ r ρ cs p h => by
  unfold fDPut at h
  split at h
  · rename_i d hi
    split at h
    · rename_i kd vd h1 h2
      obtain ⟨k1, e1, f1⟩ := okV_some h1
      obtain ⟨k2, e2, f2⟩ := okV_some h2
      cases hp : dPut d kd vd with
      | none => rw [hp] at h; cases h
      | some d' =>
        rw [hp] at h
        cases h
        exact sv_pn p fun as xo => sv_dputU (cell_mem hi) (cell_ev hi) ((hk bo as xs φ _ xo e1).ev f1) ((hv bo as xs φ _ xo e2).ev f2) hp (PN.put xo hi)
    · cases h
  · cases h


end
/-! ### defs that change the caller's cells -/
def GetsB (K : PySem.W.Frag) (G H : Hp) (bs : List Addr) (cs' : Cs) (Q : VK) (E : XK) : Out → Prop
  | .ret d => ∀ v G2 H2, Rl K G H bs G2 H2 cs' → Rep K G2 v d → Q v H2
  | .new _ => False
  | .exc cls fs => ∀ dd G2 H2, Rl K G H bs G2 H2 cs' → Xr K G2 H2 dd fs → Xn H G2 cs' dd → E cls dd H2
def spB (K : PySem.W.Frag) (n : Nat) (A : List D → Cs → Out → Cs → Prop) : Sp := fun vs H Q E => ∃ G ds cs o cs', Wl K G H cs ∧ RepL K G vs ds ∧ ds.length = n ∧ A ds cs o cs' ∧ (cs'.map (·.1)).Nodup ∧ GetsB K G H (cs.map (·.1)) cs' Q E o
def poB (o : Out) (cs' : Cs) : Po where
  nx := fun _ cs => o = .ret .non ∧ ∀ c ∈ cs', c ∈ cs
  rt := fun d cs => o = .ret d ∧ ∀ c ∈ cs', c ∈ cs
  ex := fun _ cs cls fs => o = .exc cls fs ∧ ∀ c ∈ cs', c ∈ cs
section
variable {K : PySem.W.Frag} {G G0 G1 G2 G3 H H0 H1 H2 H3 : Hp} {ρ ρ1 : Ro} {cs cs' cs0 rest xs : Cs} {ta tb te tx td ty tv : TE} {tt tu : TT} {d d' e x y z : D} {W : WX} {bs : List Addr} {t u : TS} {tr : TA} {P : Po}
theorem Rl.subc (r : Rl K G0 H0 bs G H cs) (h : ∀ c ∈ cs', c ∈ cs) (nd : (cs'.map (·.1)).Nodup) : Rl K G0 H0 bs G H cs' := ⟨r.wl.subc h nd, r.g0, r.h0, r.nw, fun c hc => r.cl c (h c hc), r.bd, r.b0⟩
theorem rl_startB (w : Wl K G H cs) : Rl K G H (cs.map (·.1)) G H cs := ⟨w, Ex.refl _, fun a o h _ => h, fun a o h z => absurd (h.symm.trans z) (by simp), fun c h => .inl (List.mem_map_of_mem h), fun b h => by
  obtain ⟨c, hc, rfl⟩ := List.mem_map.mp h
  exact (w.cell c hc).2.some, fun b h => by
  obtain ⟨c, hc, rfl⟩ := List.mem_map.mp h
  exact (w.cell c hc).2.some⟩
theorem run_ofB {N : List Str} {vs : List V} {ds : List D} {o : Out} {Q : VK} {E : XK} (w : Wl K G H cs) (r : RepL K G vs ds) (nd : (cs'.map (·.1)).Nodup) (h : Sv K (Wd E) (cs.map (·.1)) t (startD N ds) cs (poB o cs')) (q : GetsB K G H (cs.map (·.1)) cs' Q E o) : t { nx := fun _ H' => Q .non H', rt := Q } (start N vs) H := by
  refine h G H G H _ _ (rl_startB w) (start_env r) ⟨fun G2 H2 σ ρ cs2 r2 e k => ?_, fun G2 H2 v d cs2 r2 rv k => ?_, fun _ _ _ _ _ _ _ k => k.elim, fun _ _ _ _ _ _ _ k => k.elim, fun G2 H2 σ ρ cs2 cls dd fs r2 e x xn k => ?_⟩
  · obtain ⟨rfl, hs⟩ := k
    exact q .non G2 H2 (r2.subc hs nd) .non
  · obtain ⟨rfl, hs⟩ := k
    exact q v G2 H2 (r2.subc hs nd) rv
  · obtain ⟨rfl, hs⟩ := k
    exact q dd G2 H2 (r2.subc hs nd) x fun p hp => ⟨(xn p hp).1, (xn p hp).2.1, fun c hc => (xn p hp).2.2 c (hs c hc)⟩
/-- behind such a call -/
theorem Rl.call (r : Rl K G0 H0 bs G H (cs0 ++ rest)) (c : Rl K G H (cs0.map (·.1)) G2 H2 cs') (hf : cs'.map (·.1) = cs0.map (·.1)) : Rl K G0 H0 bs G2 H2 (cs' ++ rest) := by
  have nd0 : ((cs0 ++ rest).map (·.1)).Nodup := r.wl.nd
  have sep : ∀ c ∈ rest, c.1 ∉ cs0.map (·.1) := fun c hc hm => by
    rw [List.map_append, List.nodup_append] at nd0
    exact nd0.2.2 _ hm _ (List.mem_map_of_mem hc) rfl
  refine ⟨⟨c.wl.sub, fun k hk => ?_, by rw [List.map_append, hf, ← List.map_append]; exact nd0⟩, r.g0.trans c.g0, fun a o h hb => ?_, fun a o h z => ?_, fun k hk => ?_, fun b hb => ?_, r.b0⟩
  · rcases List.mem_append.mp hk with hk | hk
    · exact c.wl.cell k hk
    · obtain ⟨h1, h2⟩ := r.wl.cell k (List.mem_append_right _ hk)
      have hs := sep k hk
      have hG : G2 k.1 = none := by
        cases e : G2 k.1 with
        | none => rfl
        | some o =>
          obtain ⟨o', ho⟩ := h2.some
          rw [c.nw _ _ e h1] at ho
          cases ho
      refine ⟨hG, ?_⟩
      obtain ⟨o', ho⟩ := h2.some
      have e2 := c.h0 _ _ ho hs
      have key : ∀ (o : HO), H k.1 = some o → H2 k.1 = some o := fun o hh => c.h0 _ _ hh hs
      cases hd : k.2 with
      | lst ds => rw [hd] at h2; obtain ⟨vs, e, rr⟩ := h2; exact ⟨vs, key _ e, rr.mono c.g0⟩
      | obj C fs => rw [hd] at h2; obtain ⟨dx, vs, e, rr⟩ := h2; exact ⟨dx, vs, key _ e, rr.mono c.g0⟩
      | xdc fs => rw [hd] at h2; obtain ⟨vs, e, rr⟩ := h2; exact ⟨vs, key _ e, rr.mono c.g0⟩
      | dik ds => rw [hd] at h2; obtain ⟨vs, e, kk, rr⟩ := h2; exact ⟨vs, key _ e, kk, rr.mono c.g0⟩
      | dit ds => rw [hd] at h2; obtain ⟨vs, e, kk, rr⟩ := h2; exact ⟨vs, key _ e, kk, rr.mono c.g0⟩
      | dix w ds => rw [hd] at h2; obtain ⟨xs, us, e, kk, rr, rr2⟩ := h2; exact ⟨xs, us, key _ e, kk, rr.mono c.g0, rr2.mono c.g0⟩
      | sit w ds => rw [hd] at h2; obtain ⟨xs, e, kk, ll, rr⟩ := h2; exact ⟨xs, key _ e, kk, ll, rr.mono c.g0⟩
      | _ => rw [hd] at h2; exact h2.elim
  · refine c.h0 _ _ (r.h0 a o h hb) fun hm => ?_
    obtain ⟨k, hk, rfl⟩ := List.mem_map.mp hm
    rcases r.cl k (List.mem_append_left _ hk) with hz | hz
    · exact hb hz
    · rw [h] at hz; cases hz
  · cases e : G a with
    | some u => exact r.nw a u e z
    | none =>
      have hn := c.nw a o h e
      cases h0 : H0 a with
      | none => rfl
      | some u =>
        by_cases hb : a ∈ bs
        · obtain ⟨o', ho⟩ := r.bd a hb
          rw [hn] at ho; cases ho
        · rw [r.h0 a u h0 hb] at hn; cases hn
  · rcases List.mem_append.mp hk with hk | hk
    · have : k.1 ∈ cs0.map (·.1) := by rw [← hf]; exact List.mem_map_of_mem hk
      obtain ⟨k0, hk0, e⟩ := List.mem_map.mp this
      rw [← e]
      exact r.cl k0 (List.mem_append_left _ hk0)
    · exact r.cl k (List.mem_append_right _ hk)
  · obtain ⟨o, ho⟩ := r.bd b hb
    by_cases hm : b ∈ cs0.map (·.1)
    · exact c.bd b hm
    · exact ⟨o, c.h0 _ _ ho hm⟩
theorem sv_dropB {n : Nat} {A : List D → Cs → Out → Cs → Prop} {ds : List D} (h : EvA K tr ρ (cs0 ++ rest) ds) (hn : ds.length = n) (hA : A ds cs0 (.ret d) cs') (hf : cs'.map (·.1) = cs0.map (·.1)) (k : P.nx ρ (cs' ++ rest)) :
    Sv K W bs (tDrop (tCallS (spB K n A) (WE W) tr)) ρ (cs0 ++ rest) P := fun G0 H0 G H σ E r e o => h G H σ r.wl e _ fun vs G2 H2 nx rs => by
  have r2 := r.step nx
  have nd : ((cs0 ++ rest).map (·.1)).Nodup := r.wl.nd
  have nd0 : (cs0.map (·.1)).Nodup := by rw [List.map_append] at nd; exact (List.nodup_append.mp nd).1
  refine ⟨G2, ds, cs0, .ret d, cs', r2.wl.subc (fun c hc => List.mem_append_left _ hc) nd0, rs, hn, hA, by rw [hf]; exact nd0, fun v G3 H3 c rv => ?_⟩
  have r3 := r2.call c hf
  exact o.nx G3 H3 σ ρ _ r3 (e.mono (nx.g.trans c.g0)) k
theorem sv_dropBX {n : Nat} {A : List D → Cs → Out → Cs → Prop} {ds : List D} {cls : Value} {fs : Option (List (Str × D))} (h : EvA K tr ρ (cs0 ++ rest) ds) (hn : ds.length = n) (hA : A ds cs0 (.exc cls fs) cs') (hf : cs'.map (·.1) = cs0.map (·.1)) (k : P.ex ρ (cs' ++ rest) cls fs) :
    Sv K W bs (tDrop (tCallS (spB K n A) (WE W) tr)) ρ (cs0 ++ rest) P := fun G0 H0 G H σ E r e o => h G H σ r.wl e _ fun vs G2 H2 nx rs => by
  have r2 := r.step nx
  have nd : ((cs0 ++ rest).map (·.1)).Nodup := r.wl.nd
  have nd0 : (cs0.map (·.1)).Nodup := by rw [List.map_append] at nd; exact (List.nodup_append.mp nd).1
  refine ⟨G2, ds, cs0, .exc cls fs, cs', r2.wl.subc (fun c hc => List.mem_append_left _ hc) nd0, rs, hn, hA, by rw [hf]; exact nd0, fun dd G3 H3 c x xn => ?_⟩
  have r3 := r2.call c hf
  refine o.ex G3 H3 σ ρ _ cls dd fs r3 (e.mono (nx.g.trans c.g0)) x (fun p hp => ⟨(r2.none0 (xn p hp).1).1, (xn p hp).2.1, fun c hc => ?_⟩) k
  rcases List.mem_append.mp hc with hc | hc
  · exact (xn p hp).2.2 c hc
  · exact (r2.none0 (xn p hp).1).2.2 c (List.mem_append_right _ hc)
end
section
variable {P : Program} {w : World} {K : PySem.W.Frag} {mg : Str → Option Value} {base : Heap}
theorem fn_okB {x qual : Str} {st : Stmt} {f : Addr} {fd : FuncData} {N ps : List Str} {k n : Nat} {A : List D → Cs → Out → Cs → Prop} (F : FunU K x qual st f fd) (S : FnScope N ps (defScope st)) (hn : ps.length = n)
    (hbody : ∀ (cdv : Value) (A' : Around) (outer : List PySem.Env) (s : Shared) (H : Hp) (E : XK), Room k (cxN P w K mg base N qual st f cdv A' outer s H E).A → L2N.Takes (cxN P w K mg base N qual st f cdv A' outer s H E) (Wd E) →
      PassesOwn (model P w) (cxN P w K mg base N qual st f cdv A' outer s H E).A (cxN P w K mg base N qual st f cdv A' outer s H E).env (cxN P w K mg base N qual st f cdv A' outer s H E).xe →
      ∃ t, PSs (cxN P w K mg base N qual st f cdv A' outer s H E) (defBody st) t ∧ ∀ ds cs o cs', ds.length = n → A ds cs o cs' → (cs.map (·.1)).Nodup → Sv K (Wd E) (cs.map (·.1)) t (startD N ds) cs (poB o cs')) :
    FnOk P w K mg base (L2N.CX P w) (k + 1) f fd ps (spB K n A) := by
  obtain ⟨oc, od, dV, kV, doc, pm, an, cdv, ct, osl, rfl, lk, hcd⟩ := F.ex
  refine fn_of lk hcd S (fun vs H Q E h => ?_) (fun A' outer s H vs Q E hr h => ?_)
  · obtain ⟨G, ds, cs, o, cs', _, r, h1, _⟩ := h
    rw [r.length, h1, hn]
  · obtain ⟨G, ds, cs, o, cs', hs, r, h1, h2, nd, q⟩ := h
    obtain ⟨t, ht, hv⟩ := hbody cdv A' outer s H E hr (L2N.takes_of rfl rfl rfl rfl) (passes_of rfl)
    exact ⟨t, ht, run_ofB hs r nd (hv ds cs o cs' h1 h2 hs.nd) q⟩
end
end Lv

/-! a dict of lists that all change: {name: [] for name in names}; d.get of a written dict -/
namespace Lv
open PySem L2
open Evl (Ex)
open Classical
/-- a name, the place of its list, the list -/
abbrev Aq := List (Str × Addr × List Str)
def aqD (qs : Aq) : D := .dik (qs.map fun q => (.inr q.1, .any (.ref q.2.1)))
def aqC (qs : Aq) : Cs := qs.map fun q => (q.2.1, .lst (q.2.2.map D.str))
def aqV (qs : Aq) : List (L2.Key × V) := qs.map fun q => (.inr q.1, .ref q.2.1)
section
variable {K : PySem.W.Frag} {G G0 G1 G2 G3 H H0 H1 H2 H3 : Hp} {ρ ρ1 : Ro} {cs cs' cs0 rest xs : Cs} {ta tb te tx td ty tv : TE} {tt tu : TT} {d d' e x y z : D} {W : WX} {bs : List Addr} {t u : TS} {tr : TA} {P : Po}
/-- a new dict whose values are new empty lists -/
def EvQ (K : PySem.W.Frag) (te : TE) (ρ : Ro) (cs : Cs) (ks : List Str) : Prop := ∀ G H σ, Wl K G H cs → Env K G σ ρ → ∀ Q : VK, (∀ p (qs : Aq) G2 H2, Nx G H G2 H2 → NewC K H G2 H2 (aqC qs) → (p :: qs.map (·.2.1)).Nodup → H p = none → G2 p = none → H2 p = some (.dK (aqV qs)) → qs.map (fun q => (q.1, q.2.2)) = ks.map (fun k => (k, [])) → Q (.ref p) H2) → te σ H Q
def DcN (K : PySem.W.Frag) (G1 H1 : Hp) (Dl : Addr) (ks : List Str) (Hc : Hp) : Prop := ∃ Gc qs, Nx G1 H1 Gc Hc ∧ Gc Dl = none ∧ Hc Dl = some (.dK (aqV qs)) ∧ NewC K H1 Gc Hc (aqC qs) ∧ (Dl :: qs.map (·.2.1)).Nodup ∧ qs.map (fun q => (q.1, q.2.2)) = ks.map (fun k => (k, []))
theorem aq_keys {qs : Aq} {ks : List Str} (h : qs.map (fun q => (q.1, q.2.2)) = ks.map (fun k => (k, ([] : List Str)))) : qs.map (·.1) = ks := by
  have := congrArg (List.map Prod.fst) h
  simpa [List.map_map, Function.comp_def] using this
theorem putK_new {qs : Aq} {k : Str} {v : V} (h : k ∉ qs.map (·.1)) : putK (aqV qs) (.inr k) v = aqV qs ++ [(.inr k, v)] := by
  unfold putK
  rw [if_neg]
  intro hc
  rw [List.any_eq_true] at hc
  obtain ⟨e, he, hd⟩ := hc
  obtain ⟨q, hq, rfl⟩ := List.mem_map.mp he
  have := of_decide_eq_true hd
  injection this with this
  exact h (List.mem_map.mpr ⟨q, hq, this⟩)
theorem eq_nest {ks : List Str} {wi : TI} {j : Nat} {vs : List Nat} {src : Cs} (hi : EvI K wi ρ cs src (ks.map D.str)) (hj : j ∈ vs) (hl : ks.length ≤ 1000) (hnd : ks.Nodup) (hjl : j < ρ.length) :
    EvQ K (tDc wi (gName j) tYes (tVar j) (tLst tNil) vs) ρ cs ks := fun G H σ w e Q q =>
  hi G H σ w e _ fun J G1 H1 n1 hsrc its Dl hDl => by
    have w1 := w.step n1
    have e1 : Env K G1 (wipe σ vs) (wipeD ρ vs) := (e.mono n1.g).wipe vs
    refine ⟨fun i m Hc => m = ks.length - i ∧ i ≤ ks.length ∧ DcN K G1 H1 Dl (ks.take i) Hc, ⟨ks.length, rfl, Nat.zero_le _, G1, [], Nx.newc w1.sub hDl, Evl.fresh_back w1.sub hDl, upd_same, (fun c hc => by cases hc), by simp, rfl⟩, fun i m Hc hW => ?_⟩
    obtain ⟨rfl, hle, Gc, qs, n, gD, hD, nc, nd, hds⟩ := hW
    have wc := w1.step n
    by_cases hlt : i < ks.length
    · have hat : (ks.map D.str)[i]? = some (.str ks[i]) := by rw [List.getElem?_map, List.getElem?_eq_getElem hlt]; rfl
      have tk : ks.take (i + 1) = ks.take i ++ [ks[i]] := by rw [List.take_add_one, List.getElem?_eq_getElem hlt]; rfl
      have hlen : qs.length = i := by
        have := congrArg List.length hds
        rw [List.length_map, List.length_map, List.length_take] at this
        omega
      obtain ⟨go, yl⟩ := its.go i _ Gc Hc cs hat n.g wc hsrc
      refine .inr ⟨go, fun Hn => DcN K G1 H1 Dl (ks.take (i + 1)) Hn, fun Hn h => ⟨ks.length - (i + 1), by omega, rfl, by omega, h⟩, fun x H' hy => ?_⟩
      obtain ⟨G4, n4, rx⟩ := yl x H' hy
      refine eg_name (d := .str ks[i]) G4 H' (wipe σ vs) x n4.s ((e1.mono n.g).mono n4.g) rx _ fun σ2 e2 s2 => ⟨wipe_eq s2 (fun k hk => by rw [List.mem_singleton] at hk; subst hk; exact hj), ?_⟩
      have w4 := wc.step n4
      refine et_yes G4 H' σ2 w4 e2 _ fun G5 H5 n5 => ?_
      have gD5 : G5 Dl = none := (n4.trans n5).keepN hD gD
      have hD5 : H5 Dl = some (.dK (aqV qs)) := (n4.trans n5).h _ _ hD
      have nc5 := nc.step (n4.trans n5)
      rw [if_pos rfl]
      have hslot : ((wipeD ρ vs).set j (some (.str ks[i])))[j]? = some (some (.str ks[i])) := by
        apply List.getElem?_set_self
        rw [wl]
        exact hjl
      refine ev_var (d := .str ks[i]) hslot G5 H5 σ2 (w4.step n5) (e2.mono n5.g) _ fun y G6 H6 n6 ry => ?_
      cases ry
      have gD6' : G6 Dl = none := n6.keepN hD5 gD5
      have hD6' := n6.h _ _ hD5
      have nc6' := nc5.step n6
      refine en_lst (ds := []) ea_nil (by simp) G6 H6 σ2 ((w4.step n5).step n6) ((e2.mono n5.g).mono n6.g) _ fun p us G7 H7 n7 hp gp h7 r7 => ?_
      cases r7
      have gD7 : G7 Dl = none := n7.keepN hD6' gD6'
      have hpD : p ≠ Dl := fun z => by rw [z, hD6'] at hp; cases hp
      have hp1 : H1 p = none := by
        cases hh : H1 p with
        | none => rfl
        | some o =>
          have := (((n.trans n4).trans n5).trans n6).h p o hh
          rw [hp] at this
          cases this
      have nc7 := nc6'.step n7
      have hpn : ∀ c ∈ aqC qs, c.1 ≠ p := fun c hc z => by
        obtain ⟨o, ho⟩ := (nc6' c hc).2.2.some
        rw [z, hp] at ho
        cases ho
      have hDn : ∀ c ∈ aqC qs, c.1 ≠ Dl := fun c hc z => by
        have := (List.nodup_cons.mp nd).1
        obtain ⟨q', hq', rfl⟩ := List.mem_map.mp hc
        exact this (List.mem_map.mpr ⟨q', hq', z⟩)
      have hnew : ks[i] ∉ qs.map (·.1) := fun hm => by
        rw [aq_keys hds] at hm
        obtain ⟨k, hk, e⟩ := List.mem_iff_getElem.mp hm
        rw [List.length_take] at hk
        rw [List.getElem_take] at e
        have := (List.nodup_iff_pairwise_ne.mp hnd)
        have hkl : k < ks.length := by omega
        have hne := List.pairwise_iff_getElem.mp this k i hkl hlt (by omega)
        exact hne e
      refine ⟨_, .inr ks[i], rfl, n7.h _ _ hD6', by unfold aqV; rw [List.length_map, hlen]; exact Evl.sz_lt (by omega), G7, qs ++ [(ks[i], p, [])], ((((n.trans n4).trans n5).trans n6).trans n7).mutate hDl gD7, gD7, ?_, ?_, ?_, ?_⟩
      · rw [upd_same, putK_new hnew]
        unfold aqV
        rw [List.map_append]
        rfl
      · intro c hc
        unfold aqC at hc
        rw [List.map_append] at hc
        rcases List.mem_append.mp hc with hc | hc
        · obtain ⟨a1, a2, a3⟩ := nc7 c hc
          exact ⟨a1, a2, a3.upd_ne (hDn c hc)⟩
        · rw [List.map_singleton, List.mem_singleton] at hc
          subst hc
          refine ⟨hp1, gp, [], ?_, .nil⟩
          rw [L2.upd_ne hpD]
          exact h7
      · rw [List.nodup_cons, List.map_append]
        obtain ⟨a1, a2⟩ := List.nodup_cons.mp nd
        refine ⟨fun z => ?_, ?_⟩
        · rcases List.mem_append.mp z with z | z
          · exact a1 z
          · have z : Dl = p := by simpa using z
            exact hpD z.symm
        · rw [List.nodup_append]
          refine ⟨a2, by simp, fun a ha b hb z => ?_⟩
          obtain ⟨c, hc, rfl⟩ := List.mem_map.mp ha
          have hb : b = p := by simpa using hb
          exact hpn (c.2.1, .lst (c.2.2.map D.str)) (List.mem_map.mpr ⟨c, hc, rfl⟩) (z.trans hb)
      · rw [List.map_append, hds, tk, List.map_append]
        rfl
    · refine .inl ⟨its.stop i Gc Hc cs (by rw [List.length_map]; omega) n.g wc hsrc, ?_⟩
      have nc0 : NewC K H Gc Hc (aqC qs) := fun c hc => ⟨Evl.fresh_back n1.h (nc c hc).1, (nc c hc).2.1, (nc c hc).2.2⟩
      refine q Dl qs Gc Hc (n1.trans n) nc0 nd (Evl.fresh_back n1.h hDl) gD hD ?_
      rw [hds, List.take_of_length_le (by omega)]
where
  wl : ∀ {vs : List Nat} {ρ : Ro}, (wipeD ρ vs).length = ρ.length := fun {vs} {ρ} => by
    induction vs with
    | nil => rfl
    | cons v vs ih => rw [wipeD, List.length_set, ih]
theorem repL_any : ∀ {as : List Addr}, RepL K G (as.map V.ref) (as.map fun a => D.any (.ref a))
  | [] => .nil
  | a :: as => .cons (.any _) repL_any
theorem sv_setQ {i : Nat} {ks : List Str} (h : EvQ K te ρ cs ks) (k : ∀ p (qs : Aq), qs.map (fun q => (q.1, q.2.2)) = ks.map (fun k => (k, [])) → p ∉ bs → (∀ q ∈ qs, q.2.1 ∉ bs) → (p :: qs.map (·.2.1)).Nodup → P.nx (ρ.set i (some (.any (.ref p)))) ((p, aqD qs) :: (aqC qs ++ cs))) : Sv K W bs (tAsg te (gName i)) ρ cs P := fun G0 H0 G H σ E r e o =>
  h G H σ r.wl e _ fun p qs G2 H2 n nc nd hp gp hd hk => by
    have r2 := r.step n
    obtain ⟨a1, a2, a3⟩ := r.none0 hp
    obtain ⟨nd1, nd2⟩ := List.nodup_cons.mp nd
    have hc : ∀ c ∈ aqC qs, H c.1 = none := fun c hc => (nc c hc).1
    have ndC : ((aqC qs).map (·.1)).Nodup := by unfold aqC; rw [List.map_map]; exact nd2
    have r3 : Rl K G0 H0 bs G2 H2 (aqC qs ++ cs) := Rl.newCells r2 (fun c hcm => ⟨(r.none0 (hc c hcm)).1, (nc c hcm).2.1, (nc c hcm).2.2, (r.none0 (hc c hcm)).2.2⟩) ndC
    have r4 : Rl K G0 H0 bs G2 H2 ((p, aqD qs) :: (aqC qs ++ cs)) := by
      refine r3.newCellD a1 gp ⟨aqV qs, hd, ?_, ?_⟩ fun c hcm => ?_
      · unfold aqV; rw [List.map_map, List.map_map]; rfl
      · have := repL_any (K := K) (G := G2) (as := qs.map (·.2.1))
        unfold aqV
        rw [List.map_map] at this ⊢
        rw [List.map_map] at this ⊢
        exact this
      · rcases List.mem_append.mp hcm with hcm | hcm
        · obtain ⟨q, hq, rfl⟩ := List.mem_map.mp hcm
          exact fun z => nd1 (List.mem_map.mpr ⟨q, hq, z⟩)
        · exact a3 c hcm
    exact o.nx G2 H2 _ _ _ r4 ((e.mono n.g).set i (.any _)) (k p qs hk a2 (fun q hq => (r.none0 (hc (q.2.1, .lst (q.2.2.map D.str)) (List.mem_map.mpr ⟨q, hq, rfl⟩))).2.1) nd)
/-- all cells become data -/
theorem Rl.freezeAll (r : Rl K G0 H0 bs G H cs) (hb : ∀ c ∈ cs, c.1 ∉ bs) : Rl K G0 H0 bs (vw G H cs) H [] := ⟨⟨vw_sub r.wl, fun c hc => by simp at hc, by simp⟩, r.g0.trans (vw_ex r.wl), r.h0, fun a o h z => by
  by_cases hm : ∃ c ∈ cs, c.1 = a
  · obtain ⟨c, hc, rfl⟩ := hm
    rcases r.cl c hc with hz | hz
    · exact absurd hz (hb c hc)
    · exact hz
  · rw [vw_out hm] at h
    exact r.nw a o h z, fun c hc => by simp at hc, r.bd, r.b0⟩
theorem repL_strsR : ∀ {ys : List Str} , RepL K G (ys.map V.str) (ys.map D.str)
  | [] => .nil
  | y :: ys => .cons (.str y) repL_strsR
/-- the dict of lists as data -/
theorem rep_aq {A : Addr} {qs : Aq} (w : Wl K G H cs) (hA : (A, aqD qs) ∈ cs) (hq : ∀ c ∈ aqC qs, c ∈ cs) : Rep K (vw G H cs) (.ref A) (.dik (qs.map fun q => (.inr q.1, .lst (q.2.2.map D.str)))) := by
  obtain ⟨_, vs, e, k, r⟩ := w.cell _ hA
  refine .dik (vs := vs) (by rw [vw_in ⟨_, hA, rfl⟩]; exact e) (by rw [k, List.map_map, List.map_map]; rfl) ?_
  have : vs.map Prod.snd = (qs.map (·.2.1)).map V.ref := by
    rw [List.map_map] at r
    exact an (as := qs.map (·.2.1)) (by rw [List.map_map]; exact r)
  rw [this, List.map_map, List.map_map]
  exact go hq
where
  an : ∀ {as : List Addr} {us : List V}, RepL K G us (as.map fun a => D.any (.ref a)) → us = as.map V.ref
    | [], _, .nil => rfl
    | a :: as, _, .cons r0 r1 => by cases r0; rw [an r1]; rfl
  go : ∀ {qs : Aq}, (∀ c ∈ aqC qs, c ∈ cs) → RepL K (vw G H cs) (qs.map (V.ref ∘ fun q => q.2.1)) (qs.map (Prod.snd ∘ fun q => ((Sum.inr q.1 : L2.Key), D.lst (q.2.2.map D.str))))
    | [], _ => .nil
    | q :: qs, h => by
      have hm : (q.2.1, D.lst (q.2.2.map D.str)) ∈ cs := h _ (List.mem_cons_self)
      refine .cons ?_ (go fun c hc => h c (List.mem_cons_of_mem _ hc))
      obtain ⟨_, us, e, r⟩ := w.cell _ hm
      exact .lst (vs := us) (by rw [vw_in ⟨_, hm, rfl⟩]; exact e) (by rw [repL_strs r]; exact repL_strsR)
end
/-! ### d.get(k), d a dict of the module with text keys -/
/-- the dict at d, by its keys and values -/
structure KTb (K : PySem.W.Frag) (w : World) (d : Addr) (kvs : List (Str × V)) : Prop where
  ex : ∃ es n, KDict K w d es n ∧ es.toList.map He.keyOf = He.keysIn w.params (kvs.map (·.1))
  val : ∀ q ∈ kvs, ∃ u, PySem.W.nsIn K d q.1 = some (some u) ∧ RelV q.2 u
def tKGet (d : Addr) (kvs : List (Str × V)) (td ty : TE) : TE := fun σ H Q => td σ H fun x H1 => x = .ref d ∧ ty σ H1 fun y H2 => ∃ z, y = .str z ∧ Q ((kvs.lookup z).getD .non) H2
theorem kfind_none {es : Array DictEntry} {P : Params} {ks : List Str} {z : Str} (hk : es.toList.map He.keyOf = He.keysIn P ks) (hz : z ∉ ks) : findBy Value.isStrOf es z = none := by
  obtain ⟨l⟩ := es
  unfold findBy
  rw [List.find?_toArray]
  have key : ∀ {l : List DictEntry} {ks : List Str}, l.map He.keyOf = He.keysIn P ks → z ∉ ks → l.find? (fun e => Value.isStrOf z e.key) = none := fun {l} => by
    induction l with
    | nil => intro ks _ _; rfl
    | cons e l ih =>
      intro ks h hz
      cases ks with
      | nil => cases h
      | cons k ks =>
        have h1 : He.keyOf e :: l.map He.keyOf = some (k, PyData.keyHash P k) :: He.keysIn P ks := h
        injection h1 with h2 h3
        have hne : Value.isStrOf z e.key = false := by
          unfold He.keyOf at h2
          split at h2
          · rename_i x t q
            have h4 := Option.some.inj h2
            have h5 := (Prod.mk.inj h4).1
            rw [q]
            show decide _ = false
            apply decide_eq_false
            intro hh
            apply hz
            first
              | (rw [← h5, hh]; exact List.mem_cons_self)
              | (rw [← h5, ← hh]; exact List.mem_cons_self)
          · cases h2
        rw [List.find?_cons_of_neg (by rw [hne]; decide)]
        exact ih h3 fun hm => hz (List.mem_cons_of_mem _ hm)
  rw [key hk hz]
  rfl
theorem kfind_some {K : PySem.W.Frag} {w : World} {d : Addr} {kvs : List (Str × V)} {es : Array DictEntry} {n : Nat} {z : Str} {v : V} (D : KDict K w d es n) (hv : ∀ q ∈ kvs, ∃ u, PySem.W.nsIn K d q.1 = some (some u) ∧ RelV q.2 u) (h : kvs.lookup z = some v) : ∃ u, findBy Value.isStrOf es z = some u ∧ RelV v u := by
  have hm : (z, v) ∈ kvs := by
    clear hv
    induction kvs with
    | nil => cases h
    | cons q kvs ih =>
      rw [List.lookup_cons] at h
      cases hz : z == q.1 with
      | true =>
        rw [hz] at h
        cases h
        have := beq_iff_eq.mp hz
        rw [this]
        exact List.mem_cons_self
      | false =>
        rw [hz] at h
        exact List.mem_cons_of_mem _ (ih h)
  obtain ⟨u, h1, h2⟩ := hv _ hm
  exact ⟨u, PySem.W.find_K D.at_ h1, h2⟩
theorem lookup_none {kvs : List (Str × V)} {z : Str} (h : kvs.lookup z = none) : z ∉ kvs.map (·.1) := fun hm => by
  induction kvs with
  | nil => simp at hm
  | cons q kvs ih =>
    rw [List.lookup_cons] at h
    cases hz : z == q.1 with
    | true => rw [hz] at h; cases h
    | false =>
      rw [hz] at h
      rw [List.map_cons] at hm
      rcases List.mem_cons.mp hm with e | hm
      · rw [e] at hz; simp at hz
      · exact ih h hm
theorem pe_kget {X : Cx} {d : Addr} {kvs : List (Str × V)} {o e : Expr} {apos cpos : Pos} {td ty : TE} (T : KTb X.K X.w d kvs) (ho : PE X o td) (he : PE X e ty) (m : M1 X o "get" apos e cpos) : PE X (.Call (.Attribute o "get" apos) [e] [] cpos) (tKGet d kvs td ty) := by
  obtain ⟨es, n, D, hk⟩ := T.ex
  refine ⟨fun pins s σ H Q I h => ?_⟩
  have M := fun (h : Heap) (k : X.K.In h) => PySem.W.mapOf_K (prog := X.prog) (w := X.w) k D.at_ D.lit
  refine wpAny_Call_method m.base m.few m.line PySem.F.plainAttrs_dict PySem.F.slot_dict_get PySem.F.type_dict_get (thn (ho.run pins s σ H _ I h) fun u s1 ⟨x, H1, I1, rx, ex, q1⟩ => ?_)
  subst ex
  obtain rfl : u = Value.ref d := rx
  refine ⟨(M _ I1.kIn).typeIs, (M _ I1.kIn).noDict, ?_⟩
  rw [m.trees]
  refine Calls.callWith_builtin rfl (Calls.evalArgs_plain (Calls.spliced_cons (thn (he.run pins s1 σ H1 _ I1 q1) fun iv s2 ⟨y, H2, I2, ry, z, ey, q2⟩ => Calls.spliced_nil ?_)))
  subst ey
  obtain ⟨t, rfl⟩ := ry
  refine call_meetsIn PySem.F.slot_dict_get (M _ I2.kIn).typeIs PySem.F.entry_dict_get (PySem.F.args_dict_get_2 _ _) (meets_dict_get (strKind X.prog X.w) d (PySem.strKind_is X.prog X.w z t) D.low) ⟨_, M _ I2.kIn, ?_⟩
  refine ⟨_, H2, I2.tok _, ?_, q2⟩
  cases hl : kvs.lookup z with
  | none =>
    rw [kfind_none hk (lookup_none hl)]
    rfl
  | some v =>
    obtain ⟨u, h1, h2⟩ := kfind_some D T.val hl
    rw [h1]
    exact h2
end Lv

/-! x not in an object, by the class's own method -/
namespace Lv
open PySem L2
open Evl (Ex)
open Classical
def tOwnNin (C : Addr) (sp : Sp) (E : L2.St → XK) (ta tb : TE) : TE := fun σ H Q => tOwnIn C sp E ta tb σ H fun v H' => ∃ r, v = .bl r ∧ Q (.bl (!r)) H'
theorem pc_ownNin {X : Cx} {ta tb : TE} {C : Addr} {sp : Sp} {j k : Nat} {ps : List Str} {E : L2.St → XK} {a b : Expr} (O : Oi X.prog X.w X.K X.mg X.base j C ps sp) (hr : Room k X.A) (hx : ∀ σ, PassesAt (L2N.CX X.prog X.w) X σ (E σ)) (ha : PE X a ta) (hb : PE X b tb) (hj : j ≤ k := by decide) : PC X .NotIn a b (tOwnNin C sp E ta tb) := by
  obtain ⟨f, fd, h1, h2, h3, h4⟩ := O.ex
  refine ⟨fun pins s σ H Q I h => ?_⟩
  refine thn (ha.run pins s σ H _ I h) fun v s1 ⟨x, H1, I1, rx, q1⟩ => thn (hb.run pins s1 σ H1 _ I1 q1) fun u s2 ⟨y, H2, I2, ry, b, dx, fs, ey, eb, q⟩ => ?_
  subst ey
  cases ry
  obtain ⟨mB, J, _⟩ := ins_get I2.hok eb
  obtain ⟨od, J, _⟩ := J.look
  obtain ⟨m, hF⟩ := I2.fr
  refine PySem.W.notIn_K hF I2.ok.mod.kin J h1 h2 ?_
  refine wpAny_mono (run_fnS (E := E) (us := [.ref b, v]) (vs := [.ref b, x]) h3 (hr.mono hj) h4 (hx σ) I2 (.cons rfl (.cons rx .nil)) q) (fun r s' z => ?_) fun _ _ z => z
  obtain ⟨v', H', I', rv, r', rfl, r2, e2, q'⟩ := z
  cases rv
  cases e2
  exact wpAny_truthy_bool ⟨.bl (!r'), H', I', rfl, q'⟩
section
variable {K : PySem.W.Frag} {G G0 G1 G2 G3 H H0 H1 H2 H3 : Hp} {ρ ρ1 : Ro} {cs cs' xs : Cs} {ta tb te tx : TE} {tt tu : TT} {d d' e x y z : D} {W : WX} {bs : List Addr} {ε : Xe} {t u : TS} {A B C E : FE} {tr : TA} {T : FA} {as : Nat → Addr} {φ φ' φ1 φ2 : Fs} {F M N : FS}
theorem ev_ownNin {C : Addr} {sp : Sp} {E : L2.St → XK} {fs : List (Str × D)} {r : Bool} (h1 : Ev K ta ρ cs x) (h2 : Ev K tb ρ cs (.obj C fs)) (hs : SpD K sp [.obj C fs, x] (.bl r)) : Ev K (tOwnNin C sp E ta tb) ρ cs (.bl (!r)) := fun G H σ w e Q q =>
  ev_ownIn h1 h2 hs G H σ w e _ fun v G2 H2 n rv => by
    cases rv
    exact ⟨_, rfl, q _ G2 H2 n (.bl _)⟩
noncomputable def fOwnNin (C : Addr) (A : List D → Option Out) (a b : FE) : FE := fun φ => rb (a φ) fun k x => rb (b φ) fun k2 y => match y with
  | .obj C' fs => if C' = C ∧ k.fz = true ∧ k2.fz = true then (match A [.obj C fs, x] with
    | some (.ret (.bl r)) => some (.ok .pl (.bl (!r)))
    | _ => none) else none
  | _ => none
theorem ef_ownNin {C : Addr} {n : Nat} {F : List D → Option Out} {E : L2.St → XK} (hn : ∀ ds o, F ds = some o → ds.length = n) (ha : EF K W bs ε ta A) (hb : EF K W bs ε tb B) : EF K W bs ε (tOwnNin C (spO K n (relF F)) E ta tb) (fOwnNin C F A B) := fun as xs φ r xo h => by
  rcases rb_some h with ⟨c, g, e, rfl⟩ | ⟨kd, x, e, h⟩
  · exact fun G H σ w en Q q => ha as xs φ _ xo e G H σ w en _ q
  rcases rb_some h with ⟨c, g, e2, rfl⟩ | ⟨kd2, y, e2, h⟩
  · exact fun G H σ w en Q q => (ha as xs φ _ xo e).rd G H σ w en _ fun v G2 H2 n rv => hb as xs φ _ xo e2 G2 H2 σ (w.step n) (en.mono n.g) _ (getsM_step n q)
  split at h
  · rename_i C' fs
    split at h
    · rename_i hh
      obtain ⟨rfl, hk, hk2⟩ := hh
      split at h
      · rename_i r hr
        cases h
        exact (ev_ownNin ((ha as xs φ _ xo e).ev hk) ((hb as xs φ _ xo e2).ev hk2) (spO_ret hr (hn _ _ hr))).m
      · cases h
    · cases h
  · cases h
end
end Lv
namespace Lv
open PySem L2
theorem funU_of {K : PySem.W.Frag} {x qual : Str} {st : Stmt} {f : Addr} {fd : FuncData} {dvs : List V} {kws : List (Str × V)} (F : FunD K x qual (defArgs st) (defBody st) (defScope st) dvs kws f fd) : FunU K x qual st f fd := by
  obtain ⟨oc, od, dV, kV, doc, pm, an, cdv, ct, osl, e, l, c, hd, _⟩ := F.ex
  exact ⟨⟨oc, od, dV, kV, doc, pm, an, cdv, ct, osl, e, l, c⟩, F.kp⟩
/-- the i-th default of the def at f -/
def dfA (f : PySem.W.Frag → Addr) (i : Nat) (K : PySem.W.Frag) : Addr := match K.lookup (f K) with
  | some ⟨_, _, .func fd, _⟩ => (match fd.defaults with
    | .ref t => (match K.lookup t with
      | some ⟨_, _, .seq its _, _⟩ => (match its[i]? with
        | some (.ref a) => a
        | _ => 0)
      | _ => 0)
    | _ => 0)
  | _ => 0
/-! the Hook with tables -/
abbrev AlZ : Type := He.AlD × List (Option (List (Option (Str × Int)))) × Bool
def obsZ (n : Nat) (fa : List He.Fa) (fn : List He5.DefA) (ts : List He.Tab) (ex : PySem.W.Frag → Bool) (g : Addr → Option Obj) : AlZ := (He5.obsA fa fn (He.frG g (He.asD g n)), ts.map (fun t => He.dicW (He.frG g (He.asD g n)) (t.1 (He.frG g (He.asD g n)))), ex (He.frG g (He.asD g n)))
structure SaysZ (fa : List He.Fa) (fn : List He5.DefA) (ts : List He.Tab) (ex : PySem.W.Frag → Bool) (w : World) (K : PySem.W.Frag) : Prop where
  a : He5.SaysA fa fn K
  t : (ts.map fun t => He.dicW K (t.1 K)) = ts.map fun t => some (He.keysIn w.params t.2)
  more : ex K = true
def hookZ (n : Nat) (fa : List He.Fa) (fn : List He5.DefA) (ts : List He.Tab) (ex : PySem.W.Frag → Bool) : PySem.W.Hook where
  α := AlZ
  obs := fun s => obsZ n fa fn ts ex s.heap.get?
  val := fun (w : World) => ((He5.valA fn, (ts.map fun (t : He.Tab) => some (He.keysIn w.params t.2)), true) : AlZ)
  says := fun w h => ∃ K : PySem.W.Frag, K.In h ∧ SaysZ fa fn ts ex w K
  of := fun _ _ e => ⟨_, He.frG_in, ⟨congrArg (fun z : AlZ => z.1) e, congrArg (fun z : AlZ => z.2.1) e, congrArg (fun z : AlZ => z.2.2) e⟩⟩
  keeps := fun _ _ _ ⟨K, hK, c⟩ k => ⟨K, PySem.W.Frag.In.keeps hK k, c⟩
theorem obsZ_eq {n : Nat} {fa : List He.Fa} {fn : List He5.DefA} {ts : List He.Tab} {ex : PySem.W.Frag → Bool} {g : Addr → Option Obj} {s : Shared} (h : ∀ a, g a = s.heap.get? a) : obsZ n fa fn ts ex g = (hookZ n fa fn ts ex).obs s := by
  have e : g = s.heap.get? := funext h
  rw [e] <;> rfl
theorem SaysZ.tab {fa : List He.Fa} {fn : List He5.DefA} {ts : List He.Tab} {ex : PySem.W.Frag → Bool} {w : World} {K : PySem.W.Frag} (c : SaysZ fa fn ts ex w K) (i : Nat) {t : He.Tab} (h : ts[i]? = some t) {kvs : List (Str × V)} (hk : t.2 = kvs.map (·.1)) (hv : ∀ q ∈ kvs, ∃ u, PySem.W.nsIn K (t.1 K) q.1 = some (some u) ∧ RelV q.2 u) : KTb K w (t.1 K) kvs := by
  have e2 : (ts.map fun t => He.dicW K (t.1 K))[i]? = (ts.map fun t => some (He.keysIn w.params t.2))[i]? := by rw [c.t]
  rw [List.getElem?_map, List.getElem?_map, h] at e2
  have e3 : He.dicW K (t.1 K) = some (He.keysIn w.params t.2) := Option.some.inj e2
  obtain ⟨es, n, D⟩ := He.dicW_ok e3
  refine ⟨⟨es, n, D, ?_⟩, hv⟩
  unfold He.dicW at e3
  rw [D.at_] at e3
  have e4 : (match decide (("dict" : String) = "dict") && ((#[] : Array (Option Value)).isEmpty && !(t.1 K == sysModules)) with
    | true => some (es.toList.map He.keyOf)
    | false => none) = some (He.keysIn w.params t.2) := e3
  rw [D.low] at e4
  have e5 : some (es.toList.map He.keyOf) = some (He.keysIn w.params t.2) := e4
  rw [← hk]
  exact Option.some.inj e5
end Lv

/-! the functions at work: equations for simp -/
namespace Lv
open PySem L2
open Classical
section
variable {K : PySem.W.Frag} {φ : Fs} {a b c el : FE} {m n : FS} {t u : FA} {i j : Nat} {f g : D → D → Option (Kd × D)}
/-- what follows -/
def sbn (r : Option Br) (n : FS) : Option Br := match r with
  | some (.nx φ') => n φ'
  | r => r
@[simp] theorem x_seq : fSeq m n φ = sbn (m φ) n := rfl
@[simp] theorem x_sbn1 : sbn (some (.nx φ)) n = n φ := rfl
@[simp] theorem x_sbn2 {o : Out} : sbn (some (.rt o φ)) n = some (.rt o φ) := rfl
@[simp] theorem x_sbn3 : sbn (some (.bk φ)) n = some (.bk φ) := rfl
@[simp] theorem x_sbn4 : sbn (some (.ct φ)) n = some (.ct φ) := rfl
@[simp] theorem x_sbn5 {c : Value} {f : Option (List (Str × D))} : sbn (some (.ex c f φ)) n = some (.ex c f φ) := rfl
@[simp] theorem x_sbn6 : sbn none n = none := rfl
/-- one of two -/
def ifb (r : Option Rs) (m n : FS) (φ : Fs) : Option Br := match r with
  | some (.ok _ (.bl true)) => m φ
  | some (.ok _ (.bl false)) => n φ
  | some (.ex c f) => some (.ex c f φ)
  | _ => none
@[simp] theorem x_ifb1 {k : Kd} : ifb (some (.ok k (.bl true))) m n φ = m φ := rfl
@[simp] theorem x_ifb2 {k : Kd} : ifb (some (.ok k (.bl false))) m n φ = n φ := rfl
@[simp] theorem x_ifb3 {c : Value} {f : Option (List (Str × D))} : ifb (some (.ex c f)) m n φ = some (.ex c f φ) := rfl
theorem x_ifb {k : Kd} {b : Bool} : ifb (some (.ok k (.bl b))) m n φ = if b = true then m φ else n φ := by cases b <;> rfl
@[simp] theorem x_next : fNext φ = some (.nx φ) := rfl
@[simp] theorem x_break : fBreak φ = some (.bk φ) := rfl
@[simp] theorem x_cont : fCont φ = some (.ct φ) := rfl
@[simp] theorem x_if : fIf a m n φ = ifb (a φ) m n φ := rfl
@[simp] theorem x_set : fSet i a φ = (match a φ with | some (.ok k d) => if k.fz = true then some (.nx (φ.set i (.pl d))) else none | some (.ex c f) => some (.ex c f φ) | none => none) := rfl
@[simp] theorem x_setN : fSetN i a φ = (match a φ with | some (.ok .nw d) => some (.nx (φ.set i (.ow d))) | some (.ex c f) => some (.ex c f φ) | _ => none) := rfl
@[simp] theorem x_drop : fDrop a φ = (match a φ with | some (.ok _ _) => some (.nx φ) | some (.ex c f) => some (.ex c f φ) | none => none) := rfl
@[simp] theorem x_ret : fRet a φ = (match a φ with | some (.ok k d) => (retO k d).map fun o => .rt o φ | some (.ex c f) => some (.ex c f φ) | none => none) := rfl
@[simp] theorem x_retN : fRetN φ = some (.rt (.ret .non) φ) := rfl
@[simp] theorem x_retO_pl {d : D} : retO .pl d = some (.ret d) := rfl
@[simp] theorem x_retO_nw {ds : List D} : retO .nw (.lst ds) = some (.new ds) := rfl
@[simp] theorem x_retO_ow {ds : List D} : retO .ow (.lst ds) = some (.new ds) := rfl
@[simp] theorem x_frz : fFrz i m φ = m (frzS i φ) := rfl
@[simp] theorem x_frzS : frzS i φ = (match φ[i]? with | some (.ow d) => if frzOk d = true then φ.set i (.pl d) else φ | _ => φ) := rfl
@[simp] theorem x_frzOk {ds : List D} : frzOk (.lst ds) = true := rfl
@[simp] theorem x_frzOk2 {ds : List (L2.Key × D)} : frzOk (.dik ds) = true := rfl
@[simp] theorem x_frzOk3 {ds : List (List L2.Key × D)} : frzOk (.dit ds) = true := rfl
@[simp] theorem x_fz1 : Kd.fz .pl = true := rfl
@[simp] theorem x_fz2 : Kd.fz .nw = true := rfl
@[simp] theorem x_fz3 : Kd.fz .ow = false := rfl
@[simp] theorem x_fz4 : Kd.fz .bw = false := rfl
@[simp] theorem x_wipe {js : List Nat} : fWipe js m φ = (m φ).map (wipeB js) := rfl
@[simp] theorem x_wipeB1 {js : List Nat} : wipeB js (.nx φ) = .nx (wipeS φ js) := rfl
@[simp] theorem x_wipeB2 {js : List Nat} : wipeB js (.bk φ) = .bk (wipeS φ js) := rfl
@[simp] theorem x_wipeB3 {js : List Nat} : wipeB js (.ct φ) = .ct (wipeS φ js) := rfl
@[simp] theorem x_wipeB4 {js : List Nat} {o : Out} : wipeB js (.rt o φ) = .rt o φ := rfl
@[simp] theorem x_wipeB5 {js : List Nat} {c : Value} {f : Option (List (Str × D))} : wipeB js (.ex c f φ) = .ex c f φ := rfl
@[simp] theorem x_wipeS0 : wipeS φ [] = φ := rfl
@[simp] theorem x_wipeS1 {v : Nat} {js : List Nat} : wipeS φ (v :: js) = (wipeS φ js).set v .no := rfl
@[simp] theorem x_brO1 : brO (.nx φ) = some (.ret .non) := rfl
@[simp] theorem x_brO2 {o : Out} : brO (.rt o φ) = some o := rfl
@[simp] theorem x_brO3 {c : Value} {f : Option (List (Str × D))} : brO (.ex c f φ) = some (.exc c f) := rfl
@[simp] theorem x_var : fVar i φ = (match φ[i]? with | some (.pl d) => some (.ok .pl d) | some (.ow d) => some (.ok .ow d) | some (.bw d) => some (.ok .bw d) | _ => none) := rfl
@[simp] theorem x_c {v : V} : fC v φ = some (.ok .pl (sc v)) := rfl
@[simp] theorem x_sc1 {k : Int} : sc (.int k) = .int k := rfl
@[simp] theorem x_sc2 {s : Str} : sc (.str s) = .str s := rfl
@[simp] theorem x_sc3 {b : Bool} : sc (.bl b) = .bl b := rfl
@[simp] theorem x_sc4 : sc .non = .non := rfl
@[simp] theorem x_sc5 {a : Addr} : sc (.ref a) = .any (.ref a) := rfl
@[simp] theorem x_sc6 {n : String} : sc (.ty n) = .any (.ty n) := rfl
@[simp] theorem x_op : fOp f a b φ = rb (a φ) fun _ x => rb (b φ) fun _ y => (f x y).map fun p => .ok p.1 p.2 := rfl
@[simp] theorem x_chain : fChain f g a b c φ = rb (a φ) fun _ x => rb (b φ) fun _ y => match f x y with
  | some (.pl, .bl true) => rb (c φ) fun _ z => match g y z with
    | some (.pl, .bl b) => some (.ok .pl (.bl b))
    | _ => none
  | some (.pl, .bl false) => some (.ok .pl (.bl false))
  | _ => none := rfl
@[simp] theorem x_neg : fNeg a φ = rb (a φ) fun _ d => match d with | .int i => some (.ok .pl (.int (-i))) | _ => none := rfl
@[simp] theorem x_bl : fBl a φ = rb (a φ) fun _ d => bl1 d := rfl
@[simp] theorem x_tru : fTru a φ = rb (a φ) fun _ d => (truB d).map fun b => .ok .pl (.bl b) := rfl
@[simp] theorem x_truB {b : Bool} : truB (.bl b) = some b := rfl
@[simp] theorem x_truL {ds : List D} : truB (.lst ds) = some (!ds.isEmpty) := rfl
@[simp] theorem x_truN : truB .non = some false := rfl
@[simp] theorem x_not : fNot a φ = rb (a φ) fun _ d => match d with | .bl b => some (.ok .pl (.bl (!b))) | _ => none := rfl
@[simp] theorem x_and : fAnd a b φ = rb (a φ) fun _ d => match d with | .bl true => rb (b φ) fun _ d => bl1 d | .bl false => some (.ok .pl (.bl false)) | _ => none := rfl
@[simp] theorem x_or : fOr a b φ = rb (a φ) fun _ d => match d with | .bl false => rb (b φ) fun _ d => bl1 d | .bl true => some (.ok .pl (.bl true)) | _ => none := rfl
@[simp] theorem x_yes : fYes φ = some (.ok .pl (.bl true)) := rfl
@[simp] theorem x_ife : fIfE c a b φ = rb (c φ) fun _ d => match d with | .bl true => a φ | .bl false => b φ | _ => none := rfl
@[simp] theorem x_nil : fNil φ = some (.ok []) := rfl
@[simp] theorem x_cons : fCons a t φ = (match a φ with
  | none => none
  | some (.ex c f) => some (.ex c f)
  | some (.ok k d) => match t φ with
    | none => none
    | some (.ex c f) => some (.ex c f)
    | some (.ok ks) => some (.ok ((k, d) :: ks))) := rfl
/-- all of them may be kept -/
def fzA (ks : List (Kd × D)) : Bool := ks.all fun p => p.1.fz
@[simp] theorem fzA_nil : fzA [] = true := rfl
@[simp] theorem fzA_cons {k : Kd} {d : D} {ks : List (Kd × D)} : fzA ((k, d) :: ks) = (k.fz && fzA ks) := rfl
@[simp] theorem x_tup : fTup t φ = ab (t φ) fun ks => if fzA ks = true ∧ ks.length ≤ 100000 then some (.ok .pl (.tup (ks.map Prod.snd))) else none := rfl
@[simp] theorem x_lst : fLst t φ = ab (t φ) fun ks => if fzA ks = true ∧ ks.length ≤ 100000 then some (.ok .nw (.lst (ks.map Prod.snd))) else none := rfl
@[simp] theorem x_cb {h : List D → Option (Kd × D)} : fCB h t φ = ab (t φ) fun ks => (h (ks.map Prod.snd)).map fun p => .ok p.1 p.2 := rfl
@[simp] theorem x_lenL {ds : List D} : lenF [.lst ds] = some (.pl, .int ds.length) := rfl
@[simp] theorem x_lenT {ds : List D} : lenF [.tup ds] = some (.pl, .int ds.length) := rfl
@[simp] theorem x_lenC {ns : List Int} : lenF [.scr ns] = some (.pl, .int ns.length) := rfl
@[simp] theorem x_lenS {s : Str} : lenF [.str s] = if s.length ≤ 100000 then some (.pl, .int s.length) else none := rfl
@[simp] theorem x_listL {ds : List D} : listF [.lst ds] = some (.nw, .lst ds) := rfl
@[simp] theorem x_listT {ds : List D} : listF [.tup ds] = some (.nw, .lst ds) := rfl
@[simp] theorem x_tupleL {ds : List D} : tupleF [.lst ds] = some (.pl, .tup ds) := rfl
@[simp] theorem x_tupleT {ds : List D} : tupleF [.tup ds] = some (.pl, .tup ds) := rfl
@[simp] theorem x_int {k : Int} : intF [.int k] = some (.pl, .int k) := rfl
@[simp] theorem x_any {ds : List D} : anyF [.lst ds] = (blsF ds).map fun bs => (.pl, .bl (bs.any id)) := rfl
@[simp] theorem x_all {ds : List D} : allF [.lst ds] = (blsF ds).map fun bs => (.pl, .bl (bs.all id)) := rfl
@[simp] theorem x_oNo : oNo φ = some none := rfl
@[simp] theorem x_oAt : oAt a φ = (match a φ with | some (.ok _ (.int i)) => some (some i) | _ => none) := rfl
@[simp] theorem x_sl {l u : FO} : fSl a l u φ = rb (a φ) fun _ d => match l φ, u φ with
  | some lo, some hi => match d with
    | .lst ds => some (.ok .nw (.lst (cutD ds lo hi)))
    | .tup ds => some (.ok .pl (.tup (cutD ds lo hi)))
    | .str z => if z.length ≤ 100000 then some (.ok .pl (.str (cutS z lo hi))) else none
    | _ => none
  | _, _ => none := rfl
@[simp] theorem x_fld {s : Str} : fFld K a s φ = rb (a φ) fun _ d => match d with
  | .obj C fs => if Cls K C ∧ NoAttr K C s then (fs.lookup s).map fun z => .ok .pl z else none
  | _ => none := rfl
@[simp] theorem x_call {A : List D → Option Out} : fCall A t φ = ab (t φ) (callF A) := rfl
@[simp] theorem x_call0 {A : List D → Option Out} : fCall0 A t φ = ab (t φ) fun ks => noEx (callF A ks) := rfl
@[simp] theorem x_noEx1 {k : Kd} {d : D} : noEx (some (.ok k d)) = some (.ok k d) := rfl
@[simp] theorem x_outR1 {d : D} : outR (.ret d) = .ok .pl d := rfl
@[simp] theorem x_outR2 {ds : List D} : outR (.new ds) = .ok .nw (.lst ds) := rfl
@[simp] theorem x_outR3 {c : Value} {f : Option (List (Str × D))} : outR (.exc c f) = .ex c f := rfl
@[simp] theorem x_add_i {p q : Int} : addF (.int p) (.int q) = some (.pl, .int (p + q)) := rfl
@[simp] theorem x_add_s {p q : Str} : addF (.str p) (.str q) = if p.length + q.length ≤ 100000 then some (.pl, .str (p ++ q)) else none := rfl
@[simp] theorem x_add_t {p q : List D} : addF (.tup p) (.tup q) = if p.length + q.length ≤ 100000 then some (.pl, .tup (p ++ q)) else none := rfl
@[simp] theorem x_add_l {p q : List D} : addF (.lst p) (.lst q) = if p.length + q.length ≤ 100000 then some (.nw, .lst (p ++ q)) else none := rfl
@[simp] theorem x_ii {h : Int → Int → D} {p q : Int} : iiF h (.int p) (.int q) = some (.pl, h p q) := rfl
@[simp] theorem x_mul {p q : Int} : mulF (.int p) (.int q) = if (-2 ^ 64 < p ∧ p < 2 ^ 64) ∨ (-2 ^ 64 < q ∧ q < 2 ^ 64) then some (.pl, .int (p * q)) else none := rfl
@[simp] theorem x_div {p q : Int} : divF (.int p) (.int q) = if 0 < q ∧ q < 1073741824 then some (.pl, .int (p / q)) else none := rfl
@[simp] theorem x_mod {p q : Int} : modF (.int p) (.int q) = if 0 < q then some (.pl, .int (p % q)) else none := rfl
@[simp] theorem x_eq_i {p q : Int} : eqF (.int p) (.int q) = some (.pl, .bl (decide (p = q))) := rfl
@[simp] theorem x_eq_s {p q : Str} : eqF (.str p) (.str q) = some (.pl, .bl (decide (p = q))) := rfl
@[simp] theorem x_eq_b {p q : Bool} : eqF (.bl p) (.bl q) = some (.pl, .bl (decide (p = q))) := rfl
@[simp] theorem x_ne_i {p q : Int} : neF (.int p) (.int q) = some (.pl, .bl (!decide (p = q))) := rfl
@[simp] theorem x_ne_s {p q : Str} : neF (.str p) (.str q) = some (.pl, .bl (!decide (p = q))) := rfl
@[simp] theorem x_ne_b {p q : Bool} : neF (.bl p) (.bl q) = some (.pl, .bl (!decide (p = q))) := rfl
@[simp] theorem x_ix_l {ds : List D} {k : Int} : ixF (.lst ds) (.int k) = (atI ds k).map fun z => (.pl, z) := rfl
@[simp] theorem x_ix_t {ds : List D} {k : Int} : ixF (.tup ds) (.int k) = (atI ds k).map fun z => (.pl, z) := rfl
@[simp] theorem x_ix_c {ns : List Int} {k : Int} : ixF (.scr ns) (.int k) = (atI ns k).map fun z => (.pl, .int z) := rfl
@[simp] theorem x_ix_s {s : Str} {k : Int} : ixF (.str s) (.int k) = if s.length ≤ 100000 then (atI s.cps.toList k).map fun c => (.pl, .str ⟨#[c]⟩) else none := rfl
@[simp] theorem x_cellOf : cellOf φ i = (match φ[i]? with | some (.ow d) => some d | some (.bw d) => some d | _ => none) := rfl
@[simp] theorem x_putCell {d : D} : putCell φ i d = (match φ[i]? with | some (.ow _) => φ.set i (.ow d) | some (.bw _) => φ.set i (.bw d) | _ => φ) := rfl
@[simp] theorem x_app : fApp i a φ = (match cellOf φ i with | some (.lst ds) => sb (a φ) φ fun d => if ds.length < 100000 then some (.nx (putCell φ i (.lst (ds ++ [d])))) else none | _ => none) := rfl
@[simp] theorem x_ext : fExt i a φ = (match cellOf φ i with
  | some (.lst ds) => match a φ with
    | some (.ok _ (.lst es)) => if ds.length + es.length ≤ 100000 then some (.nx (putCell φ i (.lst (ds ++ es)))) else none
    | _ => none
  | _ => none) := rfl
@[simp] theorem x_fldS {s : Str} : fFldS K i s a φ = (match cellOf φ i with
  | some (.obj C fs) => sb (a φ) φ fun d => if Cls K C ∧ NoAttr K C s ∧ fs.length < 1000 then some (.nx (putCell φ i (.obj C (putD s d fs)))) else none
  | _ => none) := rfl
@[simp] theorem x_asg {gg : FG} : fAsg gg a φ = sb (a φ) φ fun d => (gg d φ).map Br.nx := rfl
@[simp] theorem x_gN {d : D} : gN i d φ = some (φ.set i (.pl d)) := rfl
@[simp] theorem x_iSeq : iSeqF a φ = (match a φ with | some (.ok k d) => if k.fz = true then (itsD d).map fun ds => .ok ds none else none | some (.ex c f) => some (.ex c f) | none => none) := rfl
@[simp] theorem x_itsL {ds : List D} : itsD (.lst ds) = some ds := rfl
@[simp] theorem x_itsT {ds : List D} : itsD (.tup ds) = some ds := rfl
@[simp] theorem x_iVar : iVarF i φ = (match φ[i]? with | some (.pl d) => (itsD d).map fun ds => .ok ds none | some (.ow (.lst ds)) => some (.ok ds (some i)) | some (.bw (.lst ds)) => some (.ok ds (some i)) | _ => none) := rfl
@[simp] theorem x_ib {ks : List (Kd × D)} {k : List D → Option Ri} : ib (some (.ok ks)) k = if fzA ks = true then k (ks.map Prod.snd) else none := rfl
@[simp] theorem x_rng1 : iRng1F t φ = ib (t φ) fun ds => match ds with | [.int n] => if -100000 ≤ n ∧ n ≤ 100000 then some (.ok (rngD 0 n.toNat) none) else none | _ => none := rfl
@[simp] theorem x_rng2 : iRng2F t φ = ib (t φ) fun ds => match ds with | [.int lo, .int hi] => if -100000 ≤ lo ∧ lo ≤ 100000 ∧ -100000 ≤ hi ∧ hi ≤ 100000 then some (.ok (rngD lo (hi - lo).toNat) none) else none | _ => none := rfl
@[simp] theorem x_for {ii : FI} {gg : FG} : fFor ii gg m φ = (match ii φ with | none => none | some (.ex c f) => some (.ex c f φ) | some (.ok ds src) => (forGo gg m ds src ds (pin φ src)).map (unpinB φ src)) := rfl
@[simp] theorem x_pin : pin φ none = φ := rfl
@[simp] theorem x_unpin {r : Br} : unpinB φ none r = r := unpinB_none r
@[simp] theorem x_lc {ii : FI} {gg : FG} {vs : List Nat} : fLc ii gg c el vs φ = (match ii φ with | some (.ok ds _) => if ds.length ≤ 100000 then (lcGo (lc1 gg c el (wipeS φ vs)) ds).map fun es => .ok .nw (.lst es) else none | some (.ex c f) => some (.ex c f) | none => none) := rfl
@[simp] theorem x_lc2 {ii i1 : FI} {gg g1 : FG} {c1 : FE} {vs vs1 : List Nat} {mm : Nat} : fLc2 ii gg c i1 g1 c1 el vs vs1 mm φ = (match ii φ with | some (.ok ds _) => if ds.length * mm ≤ 100000 then (lcFl (lc2 gg c i1 g1 c1 el vs1 mm (wipeS φ vs)) ds).map fun es => .ok .nw (.lst es) else none | some (.ex c f) => some (.ex c f) | none => none) := rfl
@[simp] theorem x_okB {k : Kd} {b : Bool} : okB (some (.ok k (.bl b))) = some b := rfl
@[simp] theorem x_okV {k : Kd} {d : D} : okV (some (.ok k d)) = if k.fz = true then some d else none := rfl
@[simp] theorem x_join : fJoin a b φ = rb (a φ) fun _ x => match x with | .str s => (rb (b φ) fun _ y => match y with | .lst ds => joinF s ds | .tup ds => joinF s ds | _ => none) | _ => none := rfl
@[simp] theorem x_din : fDIn a b φ = rb (a φ) fun k x => rb (b φ) fun _ y => if k.fz = true then (dLook y x).map fun o => .ok .pl (.bl o.isSome) else none := rfl
@[simp] theorem x_dget : fDGet a b φ = rb (a φ) fun _ x => rb (b φ) fun k y => if k.fz = true then (match dLook x y with | some (some z) => some (.ok .pl z) | _ => none) else none := rfl
@[simp] theorem x_prop {C : Addr} {A : List D → Option Out} : fProp C A a φ = rb (a φ) fun k d => match d with | .obj C' fs => if C' = C ∧ k.fz = true then noEx (callF A [(.pl, .obj C fs)]) else none | _ => none := rfl
end
theorem lc1_u {gg : FG} {c el : FE} {φ : Fs} {d : D} : lc1 gg c el φ d = (match gg d φ with | none => none | some φ1 => match okB (c φ1) with | some true => (okV (el φ1)).map some | some false => some none | none => none) := rfl
theorem lc2_u {gg g1 : FG} {c c1 el : FE} {i1 : FI} {vs1 : List Nat} {m : Nat} {φ : Fs} {d : D} : lc2 gg c i1 g1 c1 el vs1 m φ d = (match gg d φ with
  | none => none
  | some φ1 => match okB (c φ1) with
    | some true => match i1 φ1 with
      | some (.ok ds none) => if ds.length ≤ m then lcGo (lc1 g1 c1 el (wipeS φ1 vs1)) ds else none
      | _ => none
    | some false => some []
    | none => none) := rfl
/-- a call that is known -/
theorem call_ret {A : List D → Option Out} {ks : List (Kd × D)} {d : D} (h : A (ks.map Prod.snd) = some (.ret d)) (hk : (ks.all fun p => p.1.fz) = true) : callF A ks = some (.ok .pl d) := by
  unfold callF
  rw [h]
  simp [argOk, hk, outR]
theorem call_new {A : List D → Option Out} {ks : List (Kd × D)} {ds : List D} (h : A (ks.map Prod.snd) = some (.new ds)) (hk : (ks.all fun p => p.1.fz) = true) : callF A ks = some (.ok .nw (.lst ds)) := by
  unfold callF
  rw [h]
  simp [argOk, hk, outR]
theorem call_exc {A : List D → Option Out} {ks : List (Kd × D)} {c : Value} {f : Option (List (Str × D))} (h : A (ks.map Prod.snd) = some (.exc c f)) (hk : (ks.all fun p => p.1.fz) = true) : callF A ks = some (.ex c f) := by
  unfold callF
  rw [h]
  simp [argOk, hk, outR]
/-! loops -/
theorem forGo_nil {gg : FG} {b : FS} {all : List D} {src : Option Nat} {φ : Fs} : forGo gg b all src [] φ = some (.nx φ) := rfl
theorem forGo_cons {gg : FG} {b : FS} {all : List D} {d : D} {ds : List D} {φ : Fs} : forGo gg b all none (d :: ds) φ = (match gg d φ with
    | none => none
    | some φ1 => match b φ1 with
      | some (.nx φ2) => forGo gg b all none ds φ2
      | some (.ct φ2) => forGo gg b all none ds φ2
      | some (.bk φ2) => some (.nx φ2)
      | r => r) := by
  rw [forGo]
  cases gg d φ with
  | none => rfl
  | some φ1 =>
    simp only [stays, if_true]
    cases b φ1 with
    | none => rfl
    | some r => cases r <;> simp
/-- a loop that goes through: the state behind i turns -/
theorem forGo_all {α : Type} {enc : α → D} {gg : FG} {b : FS} {all : List D} (R : Nat → Fs) : ∀ (xs : List α) (k : Nat), (∀ i x, xs[i]? = some x → ∃ φ1, gg (enc x) (R (k + i)) = some φ1 ∧ (b φ1 = some (.nx (R (k + i + 1))) ∨ b φ1 = some (.ct (R (k + i + 1))))) → forGo gg b all none (xs.map enc) (R k) = some (.nx (R (k + xs.length)))
  | [], k, _ => rfl
  | x :: xs, k, h => by
    obtain ⟨φ1, h1, h2⟩ := h 0 x rfl
    rw [List.map_cons, forGo_cons]
    rw [Nat.add_zero] at h1 h2
    rw [h1]
    have ih := forGo_all (enc := enc) (gg := gg) (b := b) (all := all) R xs (k + 1) fun i y hy => by
      obtain ⟨φ2, a1, a2⟩ := h (i + 1) y (by simpa using hy)
      refine ⟨φ2, ?_, ?_⟩
      · rw [← a1]; congr 2; omega
      · rw [show k + 1 + i + 1 = k + (i + 1) + 1 by omega]; exact a2
    have e : k + (x :: xs).length = k + 1 + xs.length := by rw [List.length_cons]; omega
    rw [e]
    rcases h2 with h2 | h2 <;> (simp only [h2]; exact ih)
theorem forGo_rng {gg : FG} {b : FS} {all : List D} (R : Nat → Fs) (n : Nat) (h : ∀ i < n, ∃ φ1, gg (.int i) (R i) = some φ1 ∧ (b φ1 = some (.nx (R (i + 1))) ∨ b φ1 = some (.ct (R (i + 1))))) : forGo gg b all none (rngD 0 n) (R 0) = some (.nx (R n)) := by
  have := forGo_all (enc := fun (i : Nat) => D.int (0 + (i : Int))) (gg := gg) (b := b) (all := all) R (List.range n) 0 fun i x hx => by
    have hi : i < n := by have := (List.getElem?_eq_some_iff.mp hx).1; simpa using this
    rw [List.getElem?_range hi] at hx
    cases hx
    obtain ⟨φ1, h1, h2⟩ := h i hi
    refine ⟨φ1, ?_, by rw [Nat.zero_add]; exact h2⟩
    rw [Int.zero_add, Nat.zero_add]
    exact h1
  rw [List.length_range, Nat.zero_add] at this
  exact this
@[simp] theorem x_pow {p q : Int} : powF (.int p) (.int q) = if 0 ≤ q ∧ q ≤ 1000000 ∧ p.natAbs < 2 ^ 64 then some (.pl, .int (p ^ q.toNat)) else none := rfl
/-! step by step -/
theorem r_seq {m n : FS} {φ φ' : Fs} {r : Option Br} (h : m φ = some (.nx φ')) (k : n φ' = r) : fSeq m n φ = r := by
  rw [x_seq, h]
  exact k
theorem r_seqX {m n : FS} {φ : Fs} {r : Br} (h : m φ = some r) (hr : ∀ φ', r ≠ .nx φ') : fSeq m n φ = some r := by
  rw [x_seq, h]
  cases r <;> first | rfl | exact absurd rfl (hr _)
theorem r_fin {b : FS} {φ φ' : Fs} {o : Out} (h : b φ = some (.rt o φ')) : (b φ).bind brO = some o := by rw [h]; rfl
theorem r_finN {b : FS} {φ φ' : Fs} (h : b φ = some (.nx φ')) : (b φ).bind brO = some (.ret .non) := by rw [h]; rfl
theorem r_finX {b : FS} {φ φ' : Fs} {c : Value} {f : Option (List (Str × D))} (h : b φ = some (.ex c f φ')) : (b φ).bind brO = some (.exc c f) := by rw [h]; rfl
theorem r_set {i : Nat} {a : FE} {φ : Fs} {k : Kd} {d : D} (h : a φ = some (.ok k d)) (hk : k.fz = true := by rfl) : fSet i a φ = some (.nx (φ.set i (.pl d))) := by rw [x_set, h]; simp [hk]
theorem r_setN {i : Nat} {a : FE} {φ : Fs} {d : D} (h : a φ = some (.ok .nw d)) : fSetN i a φ = some (.nx (φ.set i (.ow d))) := by rw [x_setN, h]
theorem r_if {b : Bool} {a : FE} {m n : FS} {φ : Fs} {k : Kd} {r : Option Br} (h : a φ = some (.ok k (.bl b))) (h1 : b = true → m φ = r) (h2 : b = false → n φ = r) : fIf a m n φ = r := by
  rw [x_if, h]
  cases b
  · exact h2 rfl
  · exact h1 rfl
theorem r_ret {a : FE} {φ : Fs} {k : Kd} {d : D} {o : Out} (h : a φ = some (.ok k d)) (ho : retO k d = some o) : fRet a φ = some (.rt o φ) := by rw [x_ret, h]; simp [ho]
theorem r_for {ii : FI} {gg : FG} {b : FS} {φ φ' : Fs} {ds : List D} (h : ii φ = some (.ok ds none)) (hg : forGo gg b ds none ds φ = some (.nx φ')) : fFor ii gg b φ = some (.nx φ') := by
  rw [x_for, h]
  simp [hg]
theorem r_forX {ii : FI} {gg : FG} {b : FS} {φ : Fs} {ds : List D} {r : Br} (h : ii φ = some (.ok ds none)) (hg : forGo gg b ds none ds φ = some r) : fFor ii gg b φ = some r := by
  rw [x_for, h]
  simp [hg]
theorem r_lc {α : Type} {ii : FI} {gg : FG} {c el : FE} {vs : List Nat} {φ : Fs} {xs : List α} {enc v : α → D} (h : ∃ s, ii φ = some (.ok (xs.map enc) s)) (hl : xs.length ≤ 100000) (hx : ∀ x ∈ xs, lc1 gg c el (wipeS φ vs) (enc x) = some (some (v x))) : fLc ii gg c el vs φ = some (.ok .nw (.lst (xs.map v))) := by
  obtain ⟨s, h⟩ := h
  rw [x_lc, h]
  simp [hl, lcGo_map hx]
theorem r_lcF {α : Type} {ii : FI} {gg : FG} {c el : FE} {vs : List Nat} {φ : Fs} {xs : List α} {enc v : α → D} {p : α → Bool} (h : ∃ s, ii φ = some (.ok (xs.map enc) s)) (hl : xs.length ≤ 100000) (hx : ∀ x ∈ xs, lc1 gg c el (wipeS φ vs) (enc x) = some (if p x = true then some (v x) else none)) : fLc ii gg c el vs φ = some (.ok .nw (.lst ((xs.filter p).map v))) := by
  obtain ⟨s, h⟩ := h
  rw [x_lc, h]
  simp [hl, lcGo_filter hx]
theorem r_lc2 {α : Type} {ii i1 : FI} {gg g1 : FG} {c c1 el : FE} {vs vs1 : List Nat} {m : Nat} {φ : Fs} {xs : List α} {enc : α → D} {v : α → List D} (h : ∃ s, ii φ = some (.ok (xs.map enc) s)) (hl : xs.length * m ≤ 100000) (hx : ∀ x ∈ xs, lc2 gg c i1 g1 c1 el vs1 m (wipeS φ vs) (enc x) = some (v x)) : fLc2 ii gg c i1 g1 c1 el vs vs1 m φ = some (.ok .nw (.lst (xs.flatMap v))) := by
  obtain ⟨s, h⟩ := h
  rw [x_lc2, h]
  simp [hl, lcFl_map hx]
theorem rng_map (m : Nat) : rngD 0 m = (List.range m).map fun (j : Nat) => D.int (j : Int) := by
  unfold rngD
  apply List.map_congr_left
  intro a _
  rw [Int.zero_add]
theorem r_rng {t : FA} {φ : Fs} {n : Int} {m : Nat} (h : t φ = some (.ok [(.pl, .int n)])) (hn : n = (m : Int)) (hm : m ≤ 100000) : iRng1F t φ = some (.ok ((List.range m).map fun (j : Nat) => D.int (j : Int)) none) := by
  rw [x_rng1, h, hn]
  simp [show (m : Int) ≤ 100000 by omega, rng_map]
theorem forGo_rngM {gg : FG} {b : FS} {all : List D} (R : Nat → Fs) (n : Nat) (h : ∀ i < n, ∃ φ1, gg (.int i) (R i) = some φ1 ∧ (b φ1 = some (.nx (R (i + 1))) ∨ b φ1 = some (.ct (R (i + 1))))) : forGo gg b all none ((List.range n).map fun (j : Nat) => D.int (j : Int)) (R 0) = some (.nx (R n)) := by
  rw [← rng_map]
  exact forGo_rng R n h
theorem r_wipe {js : List Nat} {m : FS} {φ φ' φ'' : Fs} (h : m φ = some (.nx φ')) (hw : wipeS φ' js = φ'') : fWipe js m φ = some (.nx φ'') := by rw [x_wipe, h, ← hw]; rfl
theorem r_app {i : Nat} {a : FE} {φ φ' : Fs} {ds : List D} {k : Kd} {d : D} (hc : cellOf φ i = some (.lst ds)) (h : a φ = some (.ok k d)) (hk : k.fz = true := by rfl) (hl : ds.length < 100000) (hp : putCell φ i (.lst (ds ++ [d])) = φ') : fApp i a φ = some (.nx φ') := by
  rw [x_app, hc, h]
  simp only [sb, hk, if_true, hl]
  rw [hp]
theorem forGo_inv {α : Type} {enc : α → D} {gg : FG} {b : FS} {all : List D} (I : Nat → Fs → Prop) : ∀ (xs : List α) (k : Nat) (φ : Fs), I k φ → (∀ i x φ, xs[i]? = some x → I (k + i) φ → ∃ φ1 φ2, gg (enc x) φ = some φ1 ∧ b φ1 = some (.nx φ2) ∧ I (k + i + 1) φ2) → ∃ φ', forGo gg b all none (xs.map enc) φ = some (.nx φ') ∧ I (k + xs.length) φ'
  | [], k, φ, h0, _ => ⟨φ, rfl, h0⟩
  | x :: xs, k, φ, h0, h => by
    obtain ⟨φ1, φ2, h1, h2, h3⟩ := h 0 x φ rfl h0
    obtain ⟨φ', e1, e2⟩ := forGo_inv (enc := enc) (gg := gg) (b := b) (all := all) I xs (k + 1) φ2 h3 fun i y ψ hy hi => by
      have := h (i + 1) y ψ (by simpa using hy) (by rw [show k + (i + 1) = k + 1 + i by omega]; exact hi)
      rw [show k + (i + 1) + 1 = k + 1 + i + 1 by omega] at this
      exact this
    refine ⟨φ', ?_, ?_⟩
    · rw [List.map_cons, forGo_cons, h1]
      simp only [h2]
      exact e1
    · rw [List.length_cons, show k + (xs.length + 1) = k + 1 + xs.length by omega]
      exact e2
theorem forGo_rngI {gg : FG} {b : FS} {all : List D} (I : Nat → Fs → Prop) (n : Nat) (φ : Fs) (h0 : I 0 φ) (h : ∀ i φ, i < n → I i φ → ∃ φ1 φ2, gg (.int i) φ = some φ1 ∧ b φ1 = some (.nx φ2) ∧ I (i + 1) φ2) : ∃ φ', forGo gg b all none ((List.range n).map fun (j : Nat) => D.int (j : Int)) φ = some (.nx φ') ∧ I n φ' := by
  have := forGo_inv (enc := fun (j : Nat) => D.int (j : Int)) (gg := gg) (b := b) (all := all) I (List.range n) 0 φ h0 fun i x ψ hx hi => by
    have hl : i < n := by have := (List.getElem?_eq_some_iff.mp hx).1; simpa using this
    rw [List.getElem?_range hl] at hx
    cases hx
    rw [Nat.zero_add] at hi ⊢
    exact h i ψ hl hi
  rw [List.length_range, Nat.zero_add] at this
  exact this
theorem r_frz {i : Nat} {m : FS} {φ φ' : Fs} {r : Option Br} (h : frzS i φ = φ') (k : m φ' = r) : fFrz i m φ = r := by
  rw [x_frz, h]
  exact k
theorem atI_nat' {α : Type} {xs : List α} {j : Nat} {x : α} (h : xs[j]? = some x) : atI xs ((j : Nat) : Int) = some x := L2.atI_nat h
end Lv

/-! more ways to go through things -/
namespace Lv
open PySem L2
open Classical
section
variable {K : PySem.W.Frag} {W : WX} {bs : List Addr} {ε : Xe} {tr : TA} {T : FA} {φ : Fs}
/-- zip(x, y), both tuples -/
def iZipF (a : FA) : FI := fun φ => ib (a φ) fun ds => match ds with
  | [.tup xs, .tup ys] => some (.ok ((xs.zip ys).map fun p => .tup [p.1, p.2]) none)
  | _ => none
theorem if_zip (ht : AFb K W bs ε tr T) : IF K W bs ε (RZ.iZipA K tr) (iZipF T) := fun bo as xs φ r xo h => by
  rcases ib_some h with ⟨c, g, e, rfl⟩ | ⟨ks, e, hk, h⟩
  · exact fun G H σ w en R q => ht bo as xs φ _ xo e G H σ w en _ q
  have ha := EvAM.a (ht bo as xs φ _ xo e) hk
  split at h
  · rename_i us vs hn
    rw [hn] at ha
    cases h
    exact .inl ⟨rfl, ei_zipT ha⟩
  · cases h
end
end Lv

/-! list(reversed(x)); x.count(b) -/
namespace Lv
open PySem PySem.Spec PyProof.Rows RT
section
variable {prog : Program} {w : World} {A : Around} {E : Value → Shared → Prop} {s : Shared} {R : Result → Shared → Prop}
theorem extend_rev (S it : Addr) (res : Value) (c₀ : Nat) {l : Addr} {items : Array Value} (hh : A.handled = none) (hS : s.heap.get? S = some { cls := .type "list", data := .seq #[] c₀ }) (hit : s.heap.IsRevIter it l ((items.size : Int) - 1)) (hl : s.heap.IsList l items) (hne : l ≠ it) (hSi : S ≠ it) (hSl : S ≠ l) (hn : items.size ≤ sizeLine)
    (hR : ∀ (h' : Heap) (tk : Nat) (acc : Array Value) (c' : Nat), (∀ b o, b ≠ it → b ≠ S → s.heap.get? b = some o → h'.get? b = some o) → h'.get? S = some { cls := .type "list", data := .seq acc c' } → ItemsOf (fun i v => items[items.size - 1 - i]? = some v) acc items.size → R (.ok (.ret res)) { s with heap := h', toks := tk }) :
    wpAny (model prog w) A.in1 (Builtin.List.listExtendWith (.ref S) (.ref it) res)
      (fun fin s' => match fin with | .done f => R (.ok f) s' | .again c' => c'.quiet = true ∧ codeAny (model prog w) A c' R s') (fun e s' => R (.error e) s') s := by
  have W := (Walks.listRev (prog := prog) (w := w) (A := A.in1) hh it l hne items).toS
  have hSf : S ∉ [it, l] := by simp only [List.mem_cons, List.not_mem_nil, or_false, not_or]; exact ⟨hSi, hSl⟩
  have hT : s.TypeIs (.ref it) "list_reverseiterator" := Heap.IsRevIter.typeIs hit
  have h1 : Builtin.List.listSameRef (.ref S) (.ref it) = false := by simp [Builtin.List.listSameRef, hSi]
  unfold Builtin.List.listExtendWith
  refine wpAny_bind (wpAny_typeOf hT ?_)
  rw [if_neg (by rw [h1]; decide)]
  refine wpAny_bind (wpAny_pyIter_revIter hit ?_)
  refine wpAny_bind (wpAny_holding ?_)
  unfold Builtin.List.listLengthHint
  refine wpAny_bind (wpAny_specialOf hT nolen_lri ?_)
  show wpAny _ A.in1 (specialOf (Value.ref it) (Str.ofString "__length_hint__") >>= _) _ _ _
  refine wpAny_bind (wpAny_specialOf hT hint_lri ?_)
  generalize hid : ("list_reverseiterator.__length_hint__" : String) = id0
  wp_delta
  rw [show splitId id0 = some ("list_reverseiterator", "__length_hint__") from by subst hid; decide +kernel]
  subst hid
  refine wpAny_bind (wpAny_isInstance (b := true) hT (by rw [isSubtype_type]; kernel_rfl) ?_)
  refine wpAny_pure ?_
  rw [if_neg (by decide)]
  have e0 : ((items.size : Nat) : Int) - 1 - ((0 : Nat) : Int) = (items.size : Int) - 1 := by omega
  refine wpAny_pure ⟨plainId_quiet F.plain_extend_loop _, codeAny_extend_loopS W hn _ hSf _ items.size 0 _ _ _ rfl (Nat.zero_le _) ⟨Nat.zero_le _, by rw [e0]; exact hit, hl⟩ hS (ItemsOf.nil _) fun s' acc' c' hm hS' hacc => ?_⟩
  rw [Moved.eq_with hm]
  refine hR s'.heap s'.toks acc' _ (fun b o hb hb2 e => hm.heap b o (fun hmem => ?_) e) hS' hacc
  rcases List.mem_cons.mp hmem with e' | hmem
  · exact hb2 e'
  · exact hb (List.mem_singleton.mp hmem)
theorem call_list_rev {it l : Addr} {items : Array Value} {Q : Value → Shared → Prop} (hh : A.handled = none) (hit : s.heap.IsRevIter it l ((items.size : Int) - 1)) (hl : s.heap.IsList l items) (hne : l ≠ it) (hn : items.size ≤ sizeLine)
    (hQ : ∀ (h' : Heap) (tk : Nat) (acc : Array Value) (c' : Nat), (∀ b o, b ≠ it → s.heap.get? b = some o → h'.get? b = some o) → h'.get? s.heap.objs.size = some { cls := .type "list", data := .seq acc c' } → ItemsOf (fun i v => items[items.size - 1 - i]? = some v) acc items.size →
      Q (.ref s.heap.objs.size) { s with heap := h', toks := tk }) :
    wpAny (model prog w) A (call (.type "list") [.ref it]) Q E s := by
  obtain ⟨oi, hoi, _⟩ := id hit
  obtain ⟨ol, hol, _⟩ := id hl
  have hSi : s.heap.objs.size ≠ it := Nat.ne_of_gt (Heap.lt_size hoi)
  have hSl : s.heap.objs.size ≠ l := Nat.ne_of_gt (Heap.lt_size hol)
  refine callType_codes (Q₁ := fun obj s₁ => obj = .ref s.heap.objs.size ∧ s₁ = { s with heap := s.heap.push { cls := .type "list", data := .seq #[] } }) F.called_list (F.typeCall_list_1 _) F.entry_list_init
    (code_list_new _ ⟨rfl, rfl⟩) fun obj s₁ h₁ => ?_
  obtain ⟨rfl, rfl⟩ := h₁
  have hS : (s.heap.push { cls := .type "list", data := .seq #[] }).get? s.heap.objs.size = some { cls := .type "list", data := .seq #[] } := Heap.get?_push_size _ rfl
  refine ⟨⟨_, hS, rfl⟩, F.args_list_init_2 _ _, ?_⟩
  show wpAny _ A.in1.in1 (do let old ← Builtin.List.listItems (.ref s.heap.objs.size); Builtin.List.listUpdate (.ref s.heap.objs.size) (fun _ => #[]); letGo old.toList.reverse; Builtin.List.listExtendWith (.ref s.heap.objs.size) (.ref it) .none) _ _ _
  refine wpAny_bind ?_
  unfold Builtin.List.listItems
  refine wpAny_bind (wpAny_seqItems hS rfl (wpAny_pure ?_))
  show wpAny _ A.in1.in1 (updateSeq s.heap.objs.size (fun _ => #[]) >>= fun _ => letGo (#[] : Array Value).toList.reverse >>= fun _ => Builtin.List.listExtendWith (.ref s.heap.objs.size) (.ref it) .none) _ _ _
  refine wpAny_bind (wpAny_updateSeq hS rfl ?_)
  have hS₂ := Heap.get?_update_self (Obj.mapSeq (fun _ => (#[] : Array Value))) hS rfl
  refine wpAny_bind (wpAny_letGo ?_)
  have kp : ∀ b o, b ≠ s.heap.objs.size → s.heap.get? b = some o → ((s.heap.push { cls := .type "list", data := .seq #[] }).update s.heap.objs.size (Obj.mapSeq (fun _ => (#[] : Array Value)))).get? b = some o := fun b o hb e => (Heap.get?_update_other _ _ (Ne.symm hb)).trans (Heap.get?_push_of_some _ e)
  refine extend_rev (A := A.in1) (s := { s with heap := (s.heap.push { cls := .type "list", data := .seq #[] }).update s.heap.objs.size (Obj.mapSeq (fun _ => (#[] : Array Value))) }) s.heap.objs.size it .none _ hh hS₂ (hit.at fun o e => kp _ o (Ne.symm hSi) e) (hl.at fun o e => kp _ o (Ne.symm hSl) e) hne hSi hSl hn fun h' tk acc c' hk hS' hacc => ?_
  refine ⟨rfl, hQ h' tk acc c' (fun b o hb e => ?_) hS' hacc⟩
  have hbS : b ≠ s.heap.objs.size := fun e' => Nat.lt_irrefl _ (e' ▸ Heap.lt_size e)
  exact hk b o hb hbS (kp b o hbS e)
end
end Lv

namespace Lv
open PySem L2 PyProof.Rows
open Classical
/-! ### list(reversed(x)) -/
def tListRev (K : PySem.W.Frag) (te : TE) : TE := fun σ H Q => te σ H fun v H1 => ∃ (a : Addr) (xs : List V), v = .ref a ∧ SqL K H1 a xs ∧ ∀ q, H1 q = none → Q (.ref q) (upd H1 q (.lst xs.reverse))
section
variable {X : Cx}
theorem pe_listRev (K : PySem.W.Frag) {e : Expr} {te : TE} {p p2 pos pos2 : Pos} (hc : X.calm = true) (hg : Gl X "list") (hm : X.mg "list" = none) (hg2 : Gl X "reversed") (hm2 : X.mg "reversed" = none) (he : PE X e te)
    (hs : starEach [e] X.env = (false, eval e X.env) :: starEach [] X.env := by rfl)
    (hs2 : starEach [.Call (.Name "reversed" p2) [e] [] pos2] X.env = (false, eval (.Call (.Name "reversed" p2) [e] [] pos2) X.env) :: starEach [] X.env := by rfl) (hK : X.K = K := by rfl) :
    PE X (.Call (.Name "list" p) [.Call (.Name "reversed" p2) [e] [] pos2] [] pos) (tListRev K te) := by
  subst hK
  refine ⟨fun pins s σ H Q I h => ?_⟩
  refine Call_ (ld_blt I hg hm boot_list (PyProof.Rows.callWith_type1 (args_cons (Call_ (ld_blt I hg2 hm2 PyProof.Rows.boot_reversed (PyProof.Rows.callWith_type1 (args_cons (thn (he.run pins s σ H _ I h) fun u s1 ⟨v, H1, I1, r1, q1⟩ => args_nil ?_) hs) hs rfl))) hs2) hs2 rfl))
  obtain ⟨a, xs, ev, hq, q⟩ := q1
  subst ev
  obtain rfl : u = Value.ref a := r1
  obtain ⟨its, rv, p', hz⟩ := I1.list hq
  refine call_reversed_list p'.isList (args_nil ?_)
  have k0 : ∀ b o, s1.heap.get? b = some o → (s1.heap.push (revObj a ((its.toArray.size : Int) - 1))).get? b = some o := fun b o e => Heap.get?_push_of_some _ e
  have I2 : Inv X pins σ H1 { s1 with heap := s1.heap.push (revObj a ((its.toArray.size : Int) - 1)) } := I1.kept (t' := s1.toks) k0
  have fp := I1.fpOk (H' := H1) (b := s1.heap.objs.size) (Nat.le_refl _) (I1.hok.fresh (Nat.le_refl _))
  have hl := p'.isList
  obtain ⟨ol, hol, _⟩ := id hl
  have hne : a ≠ s1.heap.objs.size := Nat.ne_of_lt (Heap.lt_size hol)
  have hn : its.toArray.size ≤ sizeLine := by rw [List.size_toArray, ← rv.length]; exact hz
  refine call_list_rev (s := { s1 with heap := s1.heap.push (revObj a ((its.toArray.size : Int) - 1)) }) (I1.ok.hd hc) ⟨_, Heap.get?_push_size _ rfl, rfl, rfl⟩ (hl.push _) hne hn fun h' tk acc c' hk hS hi => ?_
  refine ⟨.ref _, upd H1 _ (.lst xs.reverse), I2.turnedNew (t' := tk) (ch := [s1.heap.objs.size]) (fun b o hb e => hk b o (by simpa using hb) e) (fun b hb => by rw [List.mem_singleton.mp hb]; exact fp) (Nat.le_refl _) (show ObjOk X.prog X.w _ _ _ (.lst xs.reverse) from ⟨by rw [List.length_reverse]; exact hz, acc.toList, c', RT.vals_rev rv hi, ?_⟩), rfl, q _ (I2.hok.fresh (Nat.le_refl _))⟩
  rw [Array.toArray_toList]
  exact hS
end
section
variable {K : PySem.W.Frag} {W : WX} {bs : List Addr} {ε : Xe} {ta tb : TE} {A B : FE} {ρ : Ro} {cs : Cs} {x : D}
theorem en_listRev {ds : List D} (h : EvR K ta ρ cs (.lst ds)) : EvN K (tListRev K ta) ρ cs ds.reverse := fun G H σ w e Q q => h G H σ w e _ fun v G2 H2 n r => by
  obtain ⟨a, vs, rfl, hv, rl⟩ := r.seqL (w.step n)
  refine ⟨a, vs, rfl, .inl (.inl hv), fun p hp => ?_⟩
  have gp : G2 p = none := Evl.fresh_back n.s hp
  exact q p vs.reverse G2 _ (n.trans (Nx.newc n.s hp)) (Evl.fresh_back n.h hp) gp upd_same rl.reverse
def fListRev (a : FE) : FE := fun φ => rb (a φ) fun _ d => match d with
  | .lst ds => some (.ok .nw (.lst ds.reverse))
  | _ => none
theorem ef_listRev (ha : EF K W bs ε ta A) : EF K W bs ε (tListRev K ta) (fListRev A) := fun as xs φ r xo h => by
  rcases rb_some h with ⟨c, g, e, rfl⟩ | ⟨kd, x, e, h⟩
  · exact fun G H σ w en Q q => ha as xs φ _ xo e G H σ w en _ q
  split at h
  · cases h
    exact (en_listRev (ha as xs φ _ xo e).rd).m
  · cases h
end
/-! ### x.count(b) -/
def rCount (K : PySem.W.Frag) : V → List V → Hp → VK → Prop := fun x vs H Q => ∃ (a : Addr) (bs : List Bool) (b : Bool), x = .ref a ∧ vs = [.bl b] ∧ SqL K H a (bs.map V.bl) ∧ Q (.int (bs.count b : Nat)) H
theorem vals_bl : ∀ {bs : List Bool} {its : List Value}, Vals (bs.map V.bl) its → its = bs.map Value.bool
  | [], _, r => by cases r; rfl
  | b :: bs, _, r => by
    cases r with
    | cons r t => cases r; rw [vals_bl t]; rfl
theorem countP_bl {b : Bool} : ∀ {bs : List Bool}, (bs.map Value.bool).countP (isBoolOf b) = bs.count b
  | [] => rfl
  | c :: bs => by
    rw [List.map_cons, List.countP_cons, List.count_cons, countP_bl]
    rfl
theorem mt_count {X : Cx} : MtR X "list.count" (rCount X.K) := by
  intro pins s σ H x vs v us Q I rx rv h
  obtain ⟨a, bs, b, rfl, rfl, hs, q⟩ := h
  cases rx
  cases rv with
  | cons ru rt =>
    cases rt
    cases ru
    obtain ⟨its, r', pl, hz⟩ := I.list hs
    cases vals_bl r'
    obtain ⟨⟨cls, dd, data, sl⟩, n, ho, hc, hdn, hd⟩ := pl
    simp only at hc hd
    subst hc hd
    refine call_meets PySem.F.slot_list_count ⟨_, ho, rfl⟩ PySem.F.entry_list_count (PySem.F.args_list_count_2 _ _) (PySem.SeqAt.list_countAt a (bs.map Value.bool).toArray n dd sl (.bool b) (isBoolOf b)) ⟨ho, fun y hy => ?_, ?_⟩
    · obtain ⟨c, _, rfl⟩ := List.mem_map.mp (by simpa using hy : y ∈ bs.map Value.bool)
      exact PySem.SeqAt.EqAt.bool_bool c b
    · refine ⟨.int (bs.count b : Nat), H, I.kept (t' := s.toks + 1) fun _ _ e => e, ⟨s.toks, ?_⟩, q⟩
      rw [show (bs.map Value.bool).toArray.toList = bs.map Value.bool from rfl, countP_bl]
theorem pe_countK {X : Cx} (K : PySem.W.Frag) {o e : Expr} {to te : TE} {apos cpos : Pos} (ho : PE X o to) (he : PE X e te)
    (hbase : attributeBase o "count" X.env (eval o X.env) = eval o X.env := by rfl)
    (hfew : ((backTo cpos (starEach [e] X.env)).all (fun x => !x.1) && (backToKw cpos (keywordEach [] X.env)).all (fun x => x.1.isSome)
      && decide ([e].length + ([] : List Keyword).length + (if ([] : List Keyword).isEmpty then 0 else 1) < 30)) = true := by rfl)
    (hline : (apos.endLine == cpos.line) = true := by rfl) (hs : starEach [e] X.env = (false, eval e X.env) :: starEach [] X.env := by rfl) (hplain : (backTo cpos (starEach [] X.env)).any (·.1) = false := by rfl) (hK : X.K = K := by rfl) :
    PE X (.Call (.Attribute o "count" apos) [e] [] cpos) (tBM K "list" (rCount K) to (tCons te tNil)) := by
  subst hK
  exact pe_bm PySem.F.plainAttrs_list PySem.F.slot_list_count PySem.F.type_list_count mt_count ho (pa_cons he pa_nil hs) hbase hfew hline hs hplain
section
variable {K : PySem.W.Frag} {W : WX} {bs : List Addr} {ε : Xe} {ta tb : TE} {A B : FE} {ρ : Ro} {cs : Cs} {x : D}
def fCount (a b : FE) : FE := fun φ => rb (a φ) fun _ x => match x, b φ with
  | .lst ds, some (.ok _ (.bl b)) => (blsF ds).map fun bs => .ok .pl (.int (bs.count b : Nat))
  | _, _ => none
theorem ev_count {bl : List Bool} {b : Bool} (h1 : EvR K ta ρ cs (.lst (bl.map D.bl))) (h2 : EvR K tb ρ cs (.bl b)) : Ev K (tBM K "list" (rCount K) ta (tCons tb tNil)) ρ cs (.int (bl.count b : Nat)) := fun G H σ w e Q q => h1 G H σ w e _ fun v G2 H2 n r => by
  obtain ⟨a, vs, rfl, hv, rl⟩ := r.seqL (w.step n)
  refine ⟨Or.inl ⟨rfl, vs, .inl (.inl hv)⟩, h2 G2 H2 σ (w.step n) (e.mono n.g) _ fun u G3 H3 n3 r3 => ?_⟩
  cases r3.bl ((w.step n).step n3)
  cases repL_bls rl
  exact ⟨a, bl, b, rfl, rfl, .inl (.inl (n3.h _ _ hv)), q _ G3 H3 (n.trans n3) (.int _)⟩
theorem ef_count (ha : EF K W bs ε ta A) (hb : EF K W bs ε tb B) : EF K W bs ε (tBM K "list" (rCount K) ta (tCons tb tNil)) (fCount A B) := fun as xs φ r xo h => by
  rcases rb_some h with ⟨c, g, e, rfl⟩ | ⟨kd, x, e, h⟩
  · exact fun G H σ w en Q q => ha as xs φ _ xo e G H σ w en _ q
  have hx := (ha as xs φ _ xo e).rd
  split at h
  · rename_i ds k2 b e2
    cases hb' : blsF ds with
    | none => rw [hb'] at h; cases h
    | some bl =>
      rw [hb'] at h
      cases h
      rw [blsF_some hb'] at hx
      exact (ev_count hx (hb as xs φ _ xo e2).rd).m
  · cases h
end
end Lv

/-! operators and comparisons by the class's own methods -/
namespace Lv
open PySem L2 PyProof.Rows
open Classical
structure Oc (P : Program) (w : World) (K : PySem.W.Frag) (mg : Str → Option Value) (base : Heap) (k : Nat) (C : Addr) (op : CmpOp) (ps : List Str) (sp : Sp) : Prop where
  nf : PySem.W.notFirst K C (.ref C) = true
  ex : ∃ f fd, PySem.W.findIn K (.ref C) (cmpInfo op).2.1 = some (some (.ref f)) ∧ PySem.W.isFn K (.ref f) = true ∧ FnOk P w K mg base (L2N.CX P w) k f fd ps sp ∧ Binds K fd ps []
section
variable {X : Cx} {ta tb : TE} {C : Addr} {sp : Sp} {j k : Nat} {ps : List Str} {pos : Pos}
theorem pc_ownLe {E : L2.St → XK} {a b : Expr} (O : Oc X.prog X.w X.K X.mg X.base j C .LtE ps sp) (hr : Room k X.A) (hx : ∀ σ, PassesAt (L2N.CX X.prog X.w) X σ (E σ)) (ha : PE X a ta) (hb : PE X b tb) (hj : j ≤ k := by decide) : PC X .LtE a b (tOwn C sp E ta tb) := by
  obtain ⟨f, fd, h1, h2, h3, h4⟩ := O.ex
  refine ⟨fun pins s σ H Q I h => ?_⟩
  refine thn (ha.run pins s σ H _ I h) fun v s1 ⟨x, H1, I1, rx, q1⟩ => thn (hb.run pins s1 σ H1 _ I1 q1) fun u s2 ⟨y, H2, I2, ry, a, b, dx, dy, fs, gs, ex, ey, ea, eb, q⟩ => ?_
  subst ex
  subst ey
  cases rx
  cases ry
  obtain ⟨mA, J, _⟩ := ins_get I2.hok ea
  obtain ⟨mB, J', _⟩ := ins_get I2.hok eb
  obtain ⟨od, J, _⟩ := J.look
  obtain ⟨od', J', _⟩ := J'.look
  obtain ⟨m, hF⟩ := I2.fr
  show wpAny _ _ (richCompare .LtE (.ref a) (.ref b)) _ _ _
  refine PySem.W.cmp_K hr.units0 hF I2.ok.mod.kin J J'.type O.nf h1 h2 ?_
  refine wpAny_mono (run_fnS (E := E) (us := [.ref a, .ref b]) (vs := [.ref a, .ref b]) h3 (hr.mono hj) h4 (hx σ) I2 (.cons rfl (.cons rfl .nil)) q) (fun r s' z => ?_) fun _ _ z => z
  obtain ⟨v, H', I', rv, q'⟩ := z
  exact cmpBack_of rv ⟨v, H', I', rv, q'⟩
end
section
variable {K : PySem.W.Frag} {W : WX} {bs : List Addr} {ε : Xe} {ta tb : TE} {A B : FE} {ρ : Ro} {cs : Cs} {x : D}
noncomputable def fOwn (C : Addr) (F : List D → Option Out) (a b : FE) : FE := fun φ => rb (a φ) fun k x => rb (b φ) fun k2 y => match x, y with
  | .obj C1 fs, .obj C2 gs => if C1 = C ∧ C2 = C ∧ k.fz = true ∧ k2.fz = true then callF F [(.pl, .obj C fs), (.pl, .obj C gs)] else none
  | _, _ => none
theorem ef_own {C : Addr} {n : Nat} {F : List D → Option Out} (hn : ∀ ds o, F ds = some o → ds.length = n) (ha : EF K W bs ε ta A) (hb : EF K W bs ε tb B) : EF K W bs ε (tOwn C (spO K n (relF F)) (WE W) ta tb) (fOwn C F A B) := fun as xs φ r xo h => by
  rcases rb_some h with ⟨c, g, e, rfl⟩ | ⟨kd, x, e, h⟩
  · exact fun G H σ w en Q q => ha as xs φ _ xo e G H σ w en _ q
  rcases rb_some h with ⟨c, g, e2, rfl⟩ | ⟨kd2, y, e2, h⟩
  · exact fun G H σ w en Q q => (ha as xs φ _ xo e).rd G H σ w en _ fun v G2 H2 n rv => hb as xs φ _ xo e2 G2 H2 σ (w.step n) (en.mono n.g) _ (getsM_step n q)
  split at h
  · rename_i C1 fs C2 gs
    split at h
    · rename_i hh
      obtain ⟨rfl, rfl, hk, hk2⟩ := hh
      obtain ⟨o, h1, h2, rfl⟩ := callF_some h
      have ho := (ha as xs φ _ xo e).ev hk
      have ho2 := (hb as xs φ _ xo e2).ev hk2
      exact fun G H σ w en Q q => ho G H σ w en _ fun v G2 H2 n2 r => ho2 G2 H2 σ (w.step n2) (en.mono n2.g) _ fun u G3 H3 n3 r3 => by
        cases r with
        | obj hg rf =>
          cases r3 with
          | obj hg3 rf3 =>
            refine ⟨_, _, _, _, _, _, rfl, rfl, n3.s _ _ (n3.g _ _ hg), n3.s _ _ hg3, ?_⟩
            have r1 := Rep.obj (n3.g _ _ hg) (rf.mono n3.g)
            have r2 := Rep.obj hg3 rf3
            exact call_k ((w.step n2).step n3) (.cons (k := .pl) (fun _ => r1) (.inl r1) (.cons (k := .pl) (fun _ => r2) (.inl r2) .nil)) (spO_x h1 (hn _ _ h1)) h2 (gets_step (n2.trans n3) (getsM_out q))
    · cases h
  · cases h
noncomputable def fOwn0 (C : Addr) (F : List D → Option Out) (a b : FE) : FE := fun φ => noEx (fOwn C F a b φ)
theorem ef_own0 {C : Addr} {n : Nat} {F : List D → Option Out} {E : L2.St → XK} (hn : ∀ ds o, F ds = some o → ds.length = n) (ha : EF K W bs ε ta A) (hb : EF K W bs ε tb B) : EF K W bs ε (tOwn C (spO K n (relF F)) E ta tb) (fOwn0 C F A B) := fun as xs φ r xo h => by
  obtain ⟨k, d, h0, rfl⟩ := noEx_some h
  clear h
  rcases rb_some h0 with ⟨c, g, e, z⟩ | ⟨kd, x, e, h⟩
  · cases z
  rcases rb_some h with ⟨c, g, e2, z⟩ | ⟨kd2, y, e2, h⟩
  · cases z
  split at h
  · rename_i C1 fs C2 gs
    split at h
    · rename_i hh
      obtain ⟨rfl, rfl, hk, hk2⟩ := hh
      obtain ⟨o, h1, h2, h3⟩ := callF_some h
      have ho := (ha as xs φ _ xo e).ev hk
      have ho2 := (hb as xs φ _ xo e2).ev hk2
      exact fun G H σ w en Q q => ho G H σ w en _ fun v G2 H2 n2 r => ho2 G2 H2 σ (w.step n2) (en.mono n2.g) _ fun u G3 H3 n3 r3 => by
        cases r with
        | obj hg rf =>
          cases r3 with
          | obj hg3 rf3 =>
            refine ⟨_, _, _, _, _, _, rfl, rfl, n3.s _ _ (n3.g _ _ hg), n3.s _ _ hg3, ?_⟩
            have r1 := Rep.obj (n3.g _ _ hg) (rf.mono n3.g)
            have r2 := Rep.obj hg3 rf3
            exact call_k ((w.step n2).step n3) (.cons (k := .pl) (fun _ => r1) (.inl r1) (.cons (k := .pl) (fun _ => r2) (.inl r2) .nil)) (spO_x h1 (hn _ _ h1)) h2 (gets_step (n2.trans n3) (getsM_outE h3.symm q))
    · cases h
  · cases h
end
def leB (K : PySem.W.Frag) (C : Addr) : Bool := PySem.W.notFirst K C (.ref C) && (He.eqO (PySem.W.findIn K (.ref C) (cmpInfo .LtE).2.1) (some (some (.ref (He.ma K C "__le__")))) && PySem.W.isFn K (.ref (He.ma K C "__le__")))
/-! ### x = y.pop()[i:] -/
section
variable {K : PySem.W.Frag} {W : WX} {bs : List Addr} {ε : Xe} {ta tb te : TE} {A B : FE} {ρ : Ro} {cs : Cs} {x : D} {P : Po}
theorem sl_val {G H : Hp} {v : V} {ds : List D} {lo hi : Option Int} {Q : VK} (w : Wl K G H cs) (r : Rep K G v (.tup ds)) (q : ∀ v G2 H2, Nx G H G2 H2 → Rep K G2 v (.tup (cutD ds lo hi)) → Q v H2) : uSl K v lo hi H Q := by
  obtain ⟨a, vs, rfl, ha, ra⟩ := RepC.seqT w (.inl r)
  refine .inr (.inl ⟨a, vs, rfl, ha, fun hw => ?_, fun _ p hp => ?_⟩)
  · rw [ra.length] at hw
    rw [cutD_whole hw] at q
    exact q _ G H (Nx.refl w.sub) r
  · exact q (.ref p) _ _ (Nx.new w.sub hp) (.tup (.inl upd_same) ((rep_cut ra lo hi).mono (Evl.Ex.new (Evl.fresh_back w.sub hp))))
theorem sv_popSl {a : Addr} {ds es : List D} {i : Nat} {tl th : TO} {lo hi : Option Int} (hc : (a, .lst ds) ∈ cs) (ho : Ev K ta ρ cs (.any (.ref a))) (hx : ds[ds.length - 1]? = some (.tup es)) (hl : ∀ cs, EvO K tl ρ cs lo) (hh : ∀ cs, EvO K th ρ cs hi) (k : P.nx (ρ.set i (some (.tup (cutD es lo hi)))) (setC a (.lst ds.dropLast) cs)) : Sv K W bs (tAsg (tSl (uSl K) (tBM0 K "list" rPop ta) tl th) (gName i)) ρ cs P := fun G0 H0 G H σ E r e o => ho G H σ r.wl e _ fun v G2 H2 n rv => by
  cases rv
  have r2 := r.step n
  obtain ⟨_, vs, hv, rl⟩ := r2.wl.cell _ hc
  have e2 := e.mono n.g
  obtain ⟨y, hy, ry⟩ := rl.get hx
  have rd : RepL K G2 vs.dropLast ds.dropLast := by
    rw [List.dropLast_eq_take, List.dropLast_eq_take, rl.length]
    exact rl.take _
  refine ⟨Or.inl ⟨rfl, vs, .inl (.inl hv)⟩, a, vs, y, rfl, rfl, hv, by rw [rl.length]; exact hy, ?_⟩
  have r3 := r2.write (d' := .lst ds.dropLast) hc ⟨vs.dropLast, upd_same, rd⟩
  refine hl _ G2 _ σ r3.wl e2 _ fun G4 H4 n4 => hh _ G4 H4 σ (r3.wl.step n4) (e2.mono n4.g) _ fun G5 H5 n5 => ?_
  refine sl_val ((r3.wl.step n4).step n5) ((ry.mono n4.g).mono n5.g) fun u G6 H6 n6 ru => ?_
  exact o.nx G6 H6 _ _ _ (((r3.step n4).step n5).step n6) ((((e2.mono n4.g).mono n5.g).mono n6.g).set i ru) k
theorem leSetS : ∀ {a b : Ro} {i : Nat} {d : D}, le a b → le (a.set i (some d)) (b.set i (some d))
  | [], [], i, d, h => h
  | none :: a, _ :: b, 0, d, h => ⟨rfl, h⟩
  | none :: a, _ :: b, i + 1, d, h => leSetS (a := a) (b := b) (i := i) h
  | some d :: a, x :: b, 0, _, h => ⟨rfl, h.2⟩
  | some d :: a, x :: b, i + 1, _, h => ⟨h.1, leSetS (a := a) (b := b) (i := i) h.2⟩
  | [], _ :: _, _, _, h => h.elim
  | none :: _, [], _, _, h => h.elim
  | some _ :: _, [], _, _, h => h.elim
theorem PN.setp {i : Nat} {d : D} {xs : Cs} {φ : Fs} (p : PN ε bs xs φ ρ cs) : PN ε bs xs (φ.set i (.pl d)) (ρ.set i (some d)) cs := by
  obtain ⟨as, xo, l, m⟩ := p
  have sh : Sh φ (φ.set i (.pl d)) := sh_set rfl rfl
  refine ⟨as, xo.sh sh, ?_, fun c hc => m c ?_⟩
  · rw [roOf_set (k := 0) (i := i)]
    exact leSetS l
  · rcases List.mem_append.mp hc with hc | hc
    · exact List.mem_append_left _ (sh.csm hc)
    · exact List.mem_append_right _ hc
/-- x = y.pop()[lo:] -/
def fPopSl (i j : Nat) (lo : Int) : FS := fun φ => if i = j then none else match cellOf φ j with
  | some (.lst ds) => match ds[ds.length - 1]? with
    | some (.tup es) => some (.nx ((putCell φ j (.lst ds.dropLast)).set i (.pl (.tup (cutD es (some lo) none)))))
    | _ => none
  | _ => none
theorem sf_popSl {i j : Nat} {lo : Int} : SF K W bs ε (tAsg (tSl (uSl K) (tBM0 K "list" rPop (tVar j)) (tPart (tC (.int lo))) tNoPart) (gName i)) (fPopSl i j lo) := fun bo xs φ r ρ cs p h => by
  unfold fPopSl at h
  split at h
  · cases h
  · rename_i hij
    split at h
    · rename_i ds hi
      split at h
      · rename_i es he
        cases h
        refine sv_pn p fun as xo => sv_popSl (lo := some lo) (hi := none) (cell_mem hi) (cell_ev hi) he (fun cs => eo_some ev_c) (fun cs => eo_none) ?_
        exact (PN.put (d' := .lst ds.dropLast) xo hi).setp
      · cases h
    · cases h
end
end Lv

/-! C(..) where the last parameter's default, an empty tuple, is taken -/
namespace Lv
open PySem L2 PyProof.Rows
open Classical
def etB (K : PySem.W.Frag) (a : Addr) : Bool := match K.lookup a with
  | some o => (o.cls == .type "tuple") && (match o.data with
    | .seq its _ => decide (its.size = 0)
    | _ => false)
  | none => false
theorem etB_ok {K : PySem.W.Frag} {a : Addr} (h : etB K a = true) : ∃ (o : Obj) (n : Nat), K.lookup a = some o ∧ o.cls = .type "tuple" ∧ o.data = .seq #[] n := by
  unfold etB at h
  split at h
  · rename_i o ho
    rw [Bool.and_eq_true] at h
    obtain ⟨h1, h2⟩ := h
    split at h2
    · rename_i its n hd
      have : its = #[] := Array.eq_empty_of_size_eq_zero (of_decide_eq_true h2)
      subst this
      exact ⟨o, n, ho, beq_iff_eq.mp h1, hd⟩
    · cases h2
  · cases h
theorem rep_et {K : PySem.W.Frag} {G : Hp} {a : Addr} (h : etB K a = true) : Rep K G (.ref a) (.tup []) := by
  obtain ⟨o, n, h1, h2, h3⟩ := etB_ok h
  exact .tup (.inr ⟨rfl, .inr ⟨o, #[], n, h1, h2, h3, by simp, .nil⟩⟩) .nil
structure Cxd (P : Program) (w : World) (K : PySem.W.Frag) (mg : Str → Option Value) (base : Heap) (k : Nat) (x : Str) (C a : Addr) (ps : List Str) (sp : Sp) : Prop where
  gx : mg x = some (.ref C)
  et : etB K a = true
  ex : ∃ f fd, Mk K C f ∧ FnOk P w K mg base (L2N.CX P w) k f fd ps sp ∧ Binds K fd ps [.ref a]
def tMakeSD (C a : Addr) (sp : Sp) (E : L2.St → XK) (t : TA) : TE := fun σ H Q => t σ H fun vs H1 => ∀ x dx, H1 x = none → H1 dx = none → dx ≠ x →
  sp (.ref x :: (vs ++ [.ref a])) (upd (upd H1 dx (.own x)) x (.ins C dx [])) (fun v H2 => v = .non ∧ Q (.ref x) H2) (E σ)
section
variable {X : Cx} {k j : Nat} {C a : Addr} {ps : List Str} {sp : Sp} {x : Str} {p pos : Pos} {e : Expr} {es : List Expr} {t : TA} {W : WX}
theorem pe_makeFSD (tk : L2N.Takes X W) (M : Cxd X.prog X.w X.K X.mg X.base j x C a ps sp) (hr : Room k X.A) (ha : PA X (e :: es) t) (hj : j + 1 ≤ k := by decide) (hg : Gl X x := by rfl) (hdb : (x == ("__debug__" : Str)) = false := by decide)
    (he : starEach (e :: es) X.env = (false, eval e X.env) :: starEach es X.env := by rfl) (hpl : (backTo pos (starEach es X.env)).any (·.1) = false := by rfl) : PE X (.Call (.Name x p) (e :: es) [] pos) (tMakeSD C a sp (WE W) t) := by
  obtain ⟨f, fd, h1, F, hb⟩ := M.ex
  refine ⟨fun pins s σ H Q I h => wpAny_Call_Name_kw (ld_glob I hg M.gx ?_ hdb)⟩
  refine PySem.W.callWith_K (h₀ := X.base) I.ok.mod.kin h1.kp (thn (ha.run pos pins s σ H _ I h) fun us s1 z => ?_) he hpl
  obtain ⟨vs, H1, I1, r, q⟩ := z
  refine ⟨I1.kIn, ?_⟩
  show wpAny _ _ (call (.ref C) us) _ _ _
  have hq := q (s1.heap.objs.size + 1) s1.heap.objs.size (I1.hok.fresh (Nat.le_succ _)) (I1.hok.fresh (Nat.le_refl _)) (Nat.ne_of_lt (Nat.lt_succ_self _))
  have I2 := Inv.made (C := C) I1
  have r2 : Vals (V.ref (s1.heap.objs.size + 1) :: (vs ++ [.ref a])) ((Value.ref (s1.heap.objs.size + 1) :: us) ++ [.ref a]) := .cons rfl (r.append (.cons rfl .nil))
  have hl : ((Value.ref (s1.heap.objs.size + 1) :: us) ++ [Value.ref a]).length = ps.length := by
    have z := r2.length
    rw [F.len _ _ _ _ hq] at z
    exact z.symm
  have bnd := hb _ (Value.ref (s1.heap.objs.size + 1) :: us) I2.kIn hl
  have hr2 : Room (j + 1) X.A := hr.mono hj
  have run := F.run _ X.stack _ _ ⟨Value.ref (s1.heap.objs.size + 1) :: us, []⟩ _ _ _ (WE W σ) (hr2.make C us []) (I2.env0.make C us []) bnd r2 hq
  refine wpAny_call (make_map (f := f) I1.kIn h1.makes h1.init (beq_iff_eq.mp h1.fn) (codeAny_mono run fun rs s' hq' => ?_))
  cases rs with
  | error er => exact L2N.passAt tk σ pins _ _ er s' I2 hq'
  | ok fl =>
    cases fl with
    | ret u =>
      obtain ⟨v, H', I3, rv, ev, q3⟩ := I2.after hq'
      subst ev
      exact ⟨rv, ⟨V.ref (s1.heap.objs.size + 1), H', I3, rfl, q3⟩⟩
    | next => exact False.elim hq'
    | brk => exact False.elim hq'
    | cont => exact False.elim hq'
end
section
variable {K : PySem.W.Frag} {W : WX} {bs : List Addr} {ε : Xe} {tr : TA} {T : FA}
theorem RepK.snoc {G : Hp} {cs : Cs} {v : V} {d : D} (h : Rep K G v d) : ∀ {vs : List V} {ks : List (Kd × D)}, RepK K G cs vs ks → RepK K G cs (vs ++ [v]) (ks ++ [(.pl, d)])
  | _, _, .nil => .cons (fun _ => h) (.inl h) .nil
  | _, _, .cons h1 h2 r => .cons h1 h2 (RepK.snoc h r)
noncomputable def fMakeD (C : Addr) (A : List D → Option Out) (t : FA) : FE := fun φ => ab (t φ) fun ks => match A ((ks ++ [(Kd.pl, D.tup [])]).map Prod.snd) with
  | none => none
  | some o => if argOk (ks ++ [(Kd.pl, D.tup [])]) o = true ∧ isObj C o then some (outR o) else none
theorem ef_makeSD {C a : Addr} {n : Nat} {F : List D → Option Out} (he : etB K a = true) (hn : ∀ ds o, F ds = some o → ds.length = n) (ht : AF K W bs ε tr T) : EF K W bs ε (tMakeSD C a (spI K C n (relF F)) (WE W) tr) (fMakeD C F T) := fun as xs φ r xo h => by
  rcases ab_some h with ⟨c, g, e, rfl⟩ | ⟨ks, e, h⟩
  · exact fun G H σ w en Q q => ht as xs φ _ xo e G H σ w en _ q
  split at h
  · cases h
  · rename_i o e1
    split at h
    · rename_i hh
      cases h
      exact fun G H σ w en Q q => (ht as xs φ _ xo e : EvAM K W bs tr _ _ (.ok ks)) G H σ w en _ fun vs G2 H2 n2 rk x dx hx hdx hne => make_k (w.step n2) (rk.snoc (rep_et he)) e1 (hn _ _ e1) hh.1 hh.2 (gets_step n2 (getsM_out q)) x dx hx hdx hne
    · cases h
end
end Lv

/-! evaluation by rewriting: numbers that are natural, truth by && and || -/
namespace Lv
open PySem L2
open Classical
section
variable {K : PySem.W.Frag} {φ : Fs} {a b c el : FE} {m n : FS} {t u : FA} {i j : Nat}
def andR (r s : Option Rs) : Option Rs := rb r fun _ d => match d with
  | .bl true => rb s fun _ d => bl1 d
  | .bl false => some (.ok .pl (.bl false))
  | _ => none
def orR (r s : Option Rs) : Option Rs := rb r fun _ d => match d with
  | .bl false => rb s fun _ d => bl1 d
  | .bl true => some (.ok .pl (.bl true))
  | _ => none
theorem y_and : fAnd a b φ = andR (a φ) (b φ) := rfl
theorem y_or : fOr a b φ = orR (a φ) (b φ) := rfl
theorem y_and1 {k k' : Kd} {p q : Bool} : andR (some (.ok k (.bl p))) (some (.ok k' (.bl q))) = some (.ok .pl (.bl (p && q))) := by cases p <;> rfl
theorem y_or1 {k k' : Kd} {p q : Bool} : orR (some (.ok k (.bl p))) (some (.ok k' (.bl q))) = some (.ok .pl (.bl (p || q))) := by cases p <;> rfl
theorem y_and2 {k : Kd} {s : Option Rs} : andR (some (.ok k (.bl false))) s = some (.ok .pl (.bl false)) := rfl
theorem y_or2 {k : Kd} {s : Option Rs} : orR (some (.ok k (.bl true))) s = some (.ok .pl (.bl true)) := rfl
theorem y_and3 {k : Kd} {s : Option Rs} : andR (some (.ok k (.bl true))) s = rb s fun _ d => bl1 d := rfl
theorem y_or3 {k : Kd} {s : Option Rs} : orR (some (.ok k (.bl false))) s = rb s fun _ d => bl1 d := rfl
def notR (r : Option Rs) : Option Rs := rb r fun _ d => match d with | .bl b => some (.ok .pl (.bl (!b))) | _ => none
theorem y_not : fNot a φ = notR (a φ) := rfl
theorem y_not1 {k : Kd} {p : Bool} : notR (some (.ok k (.bl p))) = some (.ok .pl (.bl (!p))) := rfl
def blR (r : Option Rs) : Option Rs := rb r fun _ d => bl1 d
theorem y_bl : fBl a φ = blR (a φ) := rfl
theorem y_bl1 {k : Kd} {p : Bool} : blR (some (.ok k (.bl p))) = some (.ok .pl (.bl p)) := rfl
def truR (r : Option Rs) : Option Rs := rb r fun _ d => (truB d).map fun b => .ok .pl (.bl b)
theorem y_tru : fTru a φ = truR (a φ) := rfl
theorem y_tru1 {k : Kd} {p : Bool} : truR (some (.ok k (.bl p))) = some (.ok .pl (.bl p)) := rfl
theorem y_tru2 {k : Kd} {ds : List D} : truR (some (.ok k (.lst ds))) = some (.ok .pl (.bl (!ds.isEmpty))) := rfl
theorem y_tru3 {k : Kd} : truR (some (.ok k .non)) = some (.ok .pl (.bl false)) := rfl
def opR (f : D → D → Option (Kd × D)) (r s : Option Rs) : Option Rs := rb r fun _ x => rb s fun _ y => (f x y).map fun p => .ok p.1 p.2
theorem y_op {f : D → D → Option (Kd × D)} : fOp f a b φ = opR f (a φ) (b φ) := rfl
theorem y_op1 {f : D → D → Option (Kd × D)} {k k' : Kd} {x y : D} : opR f (some (.ok k x)) (some (.ok k' y)) = (f x y).map fun p => .ok p.1 p.2 := rfl
/-- numerals -/
theorem y_lit {p : Nat} : fC (.int (no_index (@OfNat.ofNat Int p instOfNat))) φ = some (.ok .pl (.int ((@OfNat.ofNat Nat p (instOfNatNat p) : Nat) : Int))) := rfl
theorem y_str {s : Str} : fC (.str s) φ = some (.ok .pl (.str s)) := rfl
theorem y_blc {s : Bool} : fC (.bl s) φ = some (.ok .pl (.bl s)) := rfl
theorem y_nonc : fC .non φ = some (.ok .pl .non) := rfl
theorem y_refc {x : Addr} : fC (.ref x) φ = some (.ok .pl (.any (.ref x))) := rfl
theorem y_tyc {x : String} : fC (.ty x) φ = some (.ok .pl (.any (.ty x))) := rfl
theorem n_add {p q : Nat} : addF (.int p) (.int q) = some (.pl, .int ((p + q : Nat) : Int)) := by rw [x_add_i]; simp
theorem n_sub {p q : Nat} (h : q ≤ p) : iiF (fun i j => .int (i - j)) (.int p) (.int q) = some (.pl, .int ((p - q : Nat) : Int)) := by rw [x_ii]; simp [Int.ofNat_sub h]
theorem n_mul {p q : Nat} (h : q ≤ 1000000 ∨ p ≤ 1000000) : mulF (.int p) (.int q) = some (.pl, .int ((p * q : Nat) : Int)) := by
  rw [x_mul, if_pos]
  · simp
  · rcases h with h | h
    · exact .inr ⟨by omega, by omega⟩
    · exact .inl ⟨by omega, by omega⟩
theorem n_div {p q : Nat} (h0 : 0 < q) (h : q ≤ 1000000) : divF (.int p) (.int q) = some (.pl, .int ((p / q : Nat) : Int)) := by
  rw [x_div, if_pos ⟨by omega, by omega⟩]
  simp
theorem n_mod {p q : Nat} (h0 : 0 < q) : modF (.int p) (.int q) = some (.pl, .int ((p % q : Nat) : Int)) := by
  rw [x_mod, if_pos (by omega)]
  simp
theorem n_lt {p q : Nat} : iiF (fun i j => .bl (decide (i < j))) (.int p) (.int q) = some (.pl, .bl (decide (p < q))) := by rw [x_ii]; simp
theorem n_le {p q : Nat} : iiF (fun i j => .bl (decide (i ≤ j))) (.int p) (.int q) = some (.pl, .bl (decide (p ≤ q))) := by rw [x_ii]; simp
theorem n_gt {p q : Nat} : iiF (fun i j => .bl (decide (j < i))) (.int p) (.int q) = some (.pl, .bl (decide (q < p))) := by rw [x_ii]; simp
theorem n_ge {p q : Nat} : iiF (fun i j => .bl (decide (j ≤ i))) (.int p) (.int q) = some (.pl, .bl (decide (q ≤ p))) := by rw [x_ii]; simp
theorem n_eq {p q : Nat} : eqF (.int p) (.int q) = some (.pl, .bl (decide (p = q))) := by rw [x_eq_i]; simp [Int.ofNat_inj]
theorem n_ne {p q : Nat} : neF (.int p) (.int q) = some (.pl, .bl (!decide (p = q))) := by rw [x_ne_i]; simp [Int.ofNat_inj]
theorem atI_get {α : Type} {xs : List α} {q : Nat} : atI xs (q : Int) = xs[q]? := by
  unfold atI ixN
  rw [if_pos (by omega)]
  by_cases h : q < xs.length
  · rw [if_pos (by omega)]; simp
  · rw [if_neg (by omega), List.getElem?_eq_none (by omega)]; rfl
theorem n_ixL {ds : List D} {q : Nat} : ixF (.lst ds) (.int q) = (ds[q]?).map fun z => (.pl, z) := by rw [x_ix_l, atI_get]
theorem n_ixT {ds : List D} {q : Nat} : ixF (.tup ds) (.int q) = (ds[q]?).map fun z => (.pl, z) := by rw [x_ix_t, atI_get]
theorem n_ixC {ns : List Int} {q : Nat} : ixF (.scr ns) (.int q) = (ns[q]?).map fun z => (.pl, .int z) := by rw [x_ix_c, atI_get]
theorem n_addL {p q : List D} (h : p.length + q.length ≤ 100000) : addF (.lst p) (.lst q) = some (.nw, .lst (p ++ q)) := by rw [x_add_l, if_pos h]
theorem n_addT {p q : List D} (h : p.length + q.length ≤ 100000) : addF (.tup p) (.tup q) = some (.pl, .tup (p ++ q)) := by rw [x_add_t, if_pos h]
theorem n_addS {p q : Str} (h : p.length + q.length ≤ 100000) : addF (.str p) (.str q) = some (.pl, .str (p ++ q)) := by rw [x_add_s, if_pos h]
theorem n_in {x : D} {ys : List D} (h1 : ok 20 x = true) (h2 : okL 20 ys = true) : inF x (.lst ys) = some (.pl, .bl (inD x ys)) := by
  show (if ok 20 x = true ∧ okL 20 ys = true then some (inD x ys) else none).map _ = _
  rw [if_pos ⟨h1, h2⟩]
  rfl
theorem n_inT {x : D} {ys : List D} (h1 : ok 20 x = true) (h2 : okL 20 ys = true) : inF x (.tup ys) = some (.pl, .bl (inD x ys)) := by
  show (if ok 20 x = true ∧ okL 20 ys = true then some (inD x ys) else none).map _ = _
  rw [if_pos ⟨h1, h2⟩]
  rfl
theorem n_nin {x : D} {ys : List D} (h1 : ok 20 x = true) (h2 : okL 20 ys = true) : ninF x (.lst ys) = some (.pl, .bl (!inD x ys)) := by
  show (if ok 20 x = true ∧ okL 20 ys = true then some (inD x ys) else none).map _ = _
  rw [if_pos ⟨h1, h2⟩]
  rfl
theorem n_ninT {x : D} {ys : List D} (h1 : ok 20 x = true) (h2 : okL 20 ys = true) : ninF x (.tup ys) = some (.pl, .bl (!inD x ys)) := by
  show (if ok 20 x = true ∧ okL 20 ys = true then some (inD x ys) else none).map _ = _
  rw [if_pos ⟨h1, h2⟩]
  rfl
/-- a value with parts -/
def cpd : D → Bool
  | .tup _ => true
  | .lst _ => true
  | .non => true
  | _ => false
theorem n_eqD {x y : D} (hc : cpd x = true) (h1 : ok 20 x = true) (h2 : ok 20 y = true) : eqF x y = some (.pl, .bl (eqD x y)) := by
  have e : eqB x y = if ok 20 x = true ∧ ok 20 y = true then some (eqD x y) else none := by
    cases x <;> first | (cases hc; done) | rfl
  show (eqB x y).map _ = _
  rw [e, if_pos ⟨h1, h2⟩]
  rfl
theorem n_neD {x y : D} (hc : cpd x = true) (h1 : ok 20 x = true) (h2 : ok 20 y = true) : neF x y = some (.pl, .bl (!eqD x y)) := by
  have e : eqB x y = if ok 20 x = true ∧ ok 20 y = true then some (eqD x y) else none := by
    cases x <;> first | (cases hc; done) | rfl
  show (eqB x y).map _ = _
  rw [e, if_pos ⟨h1, h2⟩]
  rfl
theorem cpd_t {ds : List D} : cpd (.tup ds) = true := rfl
theorem cpd_l {ds : List D} : cpd (.lst ds) = true := rfl
theorem y_isN {x : D} (h : isAny x = false) : isF x .non = some (.pl, .bl (isN x)) := by show (if _ then _ else _) = _; rw [if_pos h]
theorem y_isnN {x : D} (h : isAny x = false) : isnF x .non = some (.pl, .bl (!isN x)) := by show (if _ then _ else _) = _; rw [if_pos h]
theorem y_ifb {k : Kd} {b : Bool} : ifb (some (.ok k (.bl b))) m n φ = if b = true then m φ else n φ := by cases b <;> rfl
/-- calls -/
theorem y_call {A : List D → Option Out} {ks : List (Kd × D)} : callF A ks = (match A (ks.map Prod.snd) with
  | none => none
  | some o => if argOk ks o = true then some (outR o) else none) := rfl
theorem y_callR {A : List D → Option Out} {ks : List (Kd × D)} {o : Out} (hk : fzA ks = true) (h : A (ks.map Prod.snd) = some o) : callF A ks = some (outR o) := by
  unfold callF
  rw [h]
  simp [argOk, show (ks.all fun p => p.1.fz) = true from hk]
def rngR (r : Option As) : Option Ri := ib r fun ds => match ds with
  | [.int n] => if -100000 ≤ n ∧ n ≤ 100000 then some (.ok (rngD 0 n.toNat) none) else none
  | _ => none
theorem y_rng1 : iRng1F t φ = rngR (t φ) := rfl
theorem n_rng {p : Nat} {k : Kd} (hk : k.fz = true) (h : p ≤ 100000) : rngR (some (.ok [(k, D.int (p : Int))])) = some (.ok ((List.range p).map fun (j : Nat) => D.int (j : Int)) none) := by
  unfold rngR
  simp [hk, show (p : Int) ≤ 100000 by omega, rng_map]
def rngR2 (r : Option As) : Option Ri := ib r fun ds => match ds with
  | [.int lo, .int hi] => if -100000 ≤ lo ∧ lo ≤ 100000 ∧ -100000 ≤ hi ∧ hi ≤ 100000 then some (.ok (rngD lo (hi - lo).toNat) none) else none
  | _ => none
theorem y_rng2 : iRng2F t φ = rngR2 (t φ) := rfl
theorem n_rng2 {p q : Nat} {k k' : Kd} (hk : k.fz = true) (hk' : k'.fz = true) (h : p ≤ 100000) (h' : q ≤ 100000) : rngR2 (some (.ok [(k, D.int (p : Int)), (k', D.int (q : Int))])) = some (.ok ((List.range (q - p)).map fun (j : Nat) => D.int ((p + j : Nat) : Int)) none) := by
  unfold rngR2
  simp [hk, hk', show (p : Int) ≤ 100000 by omega, show (q : Int) ≤ 100000 by omega, show (-100000 : Int) ≤ p by omega, show (-100000 : Int) ≤ q by omega, rngD]
end
/- evaluation -/
end Lv

namespace Lv
open PySem L2
open Classical
section
variable {K : PySem.W.Frag} {φ : Fs} {a b c el : FE} {m n : FS} {t u : FA} {i j : Nat}
theorem y_argOk {ks : List (Kd × D)} {o : Out} (h : fzA ks = true) : argOk ks o = true := by
  unfold argOk
  rw [show (ks.all fun p => p.1.fz) = true from h]
  rfl
/-- of each: data now, or a list -/
def lzA (ks : List (Kd × D)) : Bool := ks.all fun p => p.1.fz || isLst p.2
theorem y_lz0 : lzA [] = true := rfl
theorem y_lz1 {k : Kd} {d : D} {ks : List (Kd × D)} : lzA ((k, d) :: ks) = ((k.fz || isLst d) && lzA ks) := rfl
theorem y_argOkL {ks : List (Kd × D)} {o : Out} (h : lzA ks = true) (hn : nlO o = true) : argOk ks o = true := by
  unfold argOk
  rw [show (ks.all fun p => p.1.fz || isLst p.2) = true from h, hn]
  simp
theorem nlL_map {α : Type} {f : α → D} : ∀ {xs : List α}, (∀ x ∈ xs, nl (f x) = true) → nlL (xs.map f) = true
  | [], _ => by rw [List.map_nil, nlL]
  | x :: xs, h => by rw [List.map_cons, nlL, h x List.mem_cons_self, nlL_map fun y hy => h y (List.mem_cons_of_mem _ hy)]; rfl
theorem nl_str {s : Str} : nl (.str s) = true := by rw [nl]
theorem nl_obj {C : Addr} {fs : List (Str × D)} : nl (.obj C fs) = nlF fs := by unfold nl; rfl
theorem nlF_cons {s : Str} {d : D} {fs : List (Str × D)} : nlF ((s, d) :: fs) = (nl d && nlF fs) := by rw [nlF]
theorem nlF_nil : nlF [] = true := by rw [nlF]
theorem nl_tup {ds : List D} : nl (.tup ds) = nlL ds := by rw [nl]
theorem y_meth {C : Addr} {s : Str} {A : List D → Option Out} : fMeth C s A a t φ = rb (a φ) fun k d => match d with
  | .obj C' fs => if C' = C ∧ fs.lookup s = none ∧ k.fz = true then ab (t φ) fun ks => callF A ((.pl, .obj C fs) :: ks) else none
  | _ => none := rfl
theorem y_meth0 {C : Addr} {s : Str} {A : List D → Option Out} : fMeth0 C s A a t φ = noEx (fMeth C s A a t φ) := rfl
theorem y_make {C : Addr} {A : List D → Option Out} : fMake C A t φ = ab (t φ) fun ks => match A (ks.map Prod.snd) with
  | none => none
  | some o => if argOk ks o = true ∧ isObj C o then some (outR o) else none := rfl
theorem y_make0 {C : Addr} {A : List D → Option Out} : fMake0 C A t φ = noEx (fMake C A t φ) := rfl
theorem y_makeD {C : Addr} {A : List D → Option Out} : fMakeD C A t φ = ab (t φ) fun ks => match A ((ks ++ [(Kd.pl, D.tup [])]).map Prod.snd) with
  | none => none
  | some o => if argOk (ks ++ [(Kd.pl, D.tup [])]) o = true ∧ isObj C o then some (outR o) else none := rfl
theorem y_isObj1 {C : Addr} {fs : List (Str × D)} : isObj C (.ret (.obj C fs)) = True := eq_true rfl
theorem y_isObj2 {C : Addr} {c : Value} {f : Option (List (Str × D))} : isObj C (.exc c f) = True := rfl
theorem y_raiseF {C : Addr} {f : Str} : fRaiseF C f a φ = (match a φ with
  | some (.ok k d) => if k.fz = true then some (.ex (.ref C) (some [(f, d)]) φ) else none
  | _ => none) := rfl
theorem y_raiseO {C : Addr} : fRaiseO C φ = some (.ex (.ref C) none φ) := rfl
theorem y_try {c : Value} : fTry K c i m n φ = (match m φ with
  | some (.ex cls f φ') => (match PySem.W.exmOne K cls c with
    | some true => if noX φ' = true ∧ i < φ'.length then (n (φ'.set i (.xc cls f))).bind (clrB i) else none
    | some false => some (.ex cls f φ')
    | none => none)
  | r => r) := rfl
theorem y_noX1 {s : Sl} : noX (s :: φ) = (!s.isX && noX φ) := rfl
theorem y_noX0 : noX [] = true := rfl
theorem y_isX1 {d : D} : Sl.isX (.pl d) = false := rfl
theorem y_isX2 {d : D} : Sl.isX (.ow d) = false := rfl
theorem y_isX3 {d : D} : Sl.isX (.bw d) = false := rfl
theorem y_isX4 : Sl.isX .no = false := rfl
theorem y_clr1 : clrB i (.nx φ) = if noX (φ.set i .no) = true then some (.nx (φ.set i .no)) else none := rfl
theorem y_clr2 {o : Out} : clrB i (.rt o φ) = some (.rt o φ) := rfl
theorem y_clr3 {c : Value} {f : Option (List (Str × D))} : clrB i (.ex c f φ) = if noX (φ.set i .no) = true then some (.ex c f (φ.set i .no)) else none := rfl
theorem y_isX {c : V} : fIsX K i c φ = (match φ[i]? with
  | some (.xc (.ref C) f) => if Ec K C then (clsVal c).bind fun cv => (PySem.W.kitOne K (.ref C) cv).map fun b => .ok .pl (.bl b) else none
  | _ => none) := rfl
theorem y_clsR {x : Addr} : clsVal (.ref x) = some (.ref x) := rfl
theorem y_clsT {x : String} : clsVal (.ty x) = some (.type x) := rfl
theorem y_xf {f : Str} : fXf K i f φ = (match φ[i]? with
  | some (.xc (.ref C) (some fs)) => if Ec K C ∧ PySem.W.findIn K (.ref C) f = some none then (fs.lookup f).map fun z => .ok .pl z else none
  | _ => none) := rfl
theorem y_look1 {s : Str} {d : D} : List.lookup s [(s, d)] = some d := by simp [List.lookup]
theorem y_clear : fClear i φ = (match cellOf φ i with
  | some (.lst _) => some (.nx (putCell φ i (.lst [])))
  | _ => none) := rfl
theorem y_rev : fListRev a φ = rb (a φ) fun _ d => match d with
  | .lst ds => some (.ok .nw (.lst ds.reverse))
  | _ => none := rfl
theorem y_count : fCount a b φ = rb (a φ) fun _ x => match x, b φ with
  | .lst ds, some (.ok _ (.bl b)) => (blsF ds).map fun bs => .ok .pl (.int (bs.count b : Nat))
  | _, _ => none := rfl
theorem y_bls0 : blsF [] = some [] := rfl
theorem y_bls1 {p : Bool} {ds : List D} : blsF (.bl p :: ds) = (blsF ds).map fun bs => p :: bs := rfl
theorem y_own {C : Addr} {F : List D → Option Out} : fOwn C F a b φ = rb (a φ) fun k x => rb (b φ) fun k2 y => match x, y with
  | .obj C1 fs, .obj C2 gs => if C1 = C ∧ C2 = C ∧ k.fz = true ∧ k2.fz = true then callF F [(.pl, .obj C fs), (.pl, .obj C gs)] else none
  | _, _ => none := rfl
theorem y_ownIn {C : Addr} {F : List D → Option Out} : fOwnIn C F a b φ = rb (a φ) fun k x => rb (b φ) fun k2 y => match y with
  | .obj C' fs => if C' = C ∧ k.fz = true ∧ k2.fz = true then (match F [.obj C fs, x] with
    | some (.ret (.bl r)) => some (.ok .pl (.bl r))
    | _ => none) else none
  | _ => none := rfl
theorem y_isiL {ds : List D} : isiF K [.lst ds, .any (.ty "list")] = some (.pl, .bl true) := rfl
theorem y_isiT {ds : List D} : isiF K [.tup ds, .any (.ty "tuple")] = some (.pl, .bl true) := rfl
theorem y_isiB {p : Bool} : isiF K [.bl p, .any (.ty "bool")] = some (.pl, .bl true) := rfl
theorem y_isiS {p : Str} : isiF K [.str p, .any (.ty "str")] = some (.pl, .bl true) := rfl
theorem y_isiI {p : Int} : isiF K [.int p, .any (.ty "int")] = some (.pl, .bl true) := rfl
theorem y_isiIB {p : Int} : isiF K [.int p, .any (.ty "bool")] = some (.pl, .bl false) := rfl
/-- a loop that goes through, the state by a function of what was gone through -/
theorem forGo_foldl {α σ : Type} {enc : α → D} {gg : FG} {bd : FS} {all : List D} (st : σ → Fs) (step : σ → α → σ) (I : σ → Prop) : ∀ (xs : List α) (s : σ), I s → (∀ s x, x ∈ xs → I s → (∃ φ1, gg (enc x) (st s) = some φ1 ∧ (bd φ1 = some (.nx (st (step s x))) ∨ bd φ1 = some (.ct (st (step s x))))) ∧ I (step s x)) → forGo gg bd all none (xs.map enc) (st s) = some (.nx (st (xs.foldl step s))) ∧ I (xs.foldl step s)
  | [], s, h0, _ => ⟨rfl, h0⟩
  | x :: xs, s, h0, h => by
    obtain ⟨⟨φ1, h1, h2⟩, h3⟩ := h s x List.mem_cons_self h0
    obtain ⟨e1, e2⟩ := forGo_foldl (enc := enc) (gg := gg) (bd := bd) (all := all) st step I xs (step s x) h3 fun s y hy => h s y (List.mem_cons_of_mem _ hy)
    refine ⟨?_, e2⟩
    rw [List.map_cons, forGo_cons, h1]
    rcases h2 with h2 | h2 <;> (simp only [h2]; exact e1)
/-- a loop whose turns leave the state as it is -/
theorem forGo_same {α : Type} {enc : α → D} {gg : FG} {bd : FS} {all : List D} {φ : Fs} (xs : List α) (h : ∀ x ∈ xs, ∃ φ1, gg (enc x) φ = some φ1 ∧ bd φ1 = some (.nx φ)) : forGo gg bd all none (xs.map enc) φ = some (.nx φ) := by
  have := (forGo_foldl (enc := enc) (gg := gg) (bd := bd) (all := all) (fun _ : Unit => φ) (fun _ _ => ()) (fun _ => True) xs () trivial fun _ x hx _ => by
    obtain ⟨φ1, h1, h2⟩ := h x hx
    exact ⟨⟨φ1, h1, .inl h2⟩, trivial⟩).1
  exact this
/-- a loop that ends at the first x of a kind -/
theorem forGo_first {α : Type} {enc : α → D} {gg : FG} {bd : FS} {all : List D} {φ : Fs} (p : α → Bool) (r : α → Br) (hr : ∀ x φ', r x ≠ .nx φ' ∧ r x ≠ .ct φ' ∧ r x ≠ .bk φ') : ∀ (xs : List α), (∀ x ∈ xs, ∃ φ1, gg (enc x) φ = some φ1 ∧ bd φ1 = some (if p x = true then r x else .nx φ)) → forGo gg bd all none (xs.map enc) φ = some (match xs.find? p with | some x => r x | none => .nx φ)
  | [], _ => rfl
  | x :: xs, h => by
    obtain ⟨φ1, h1, h2⟩ := h x List.mem_cons_self
    rw [List.map_cons, forGo_cons, h1, List.find?_cons]
    cases hp : p x with
    | true =>
      simp only [hp, if_true] at h2
      simp only [h2]
      have := hr x
      cases hx : r x with
      | nx φ' => exact absurd hx (this φ').1
      | ct φ' => exact absurd hx (this φ').2.1
      | bk φ' => exact absurd hx (this φ').2.2
      | rt o φ' => rfl
      | ex c f φ' => rfl
    | false =>
      simp only [hp, Bool.false_eq_true, if_false] at h2
      simp only [h2]
      exact forGo_first p r hr xs fun y hy => h y (List.mem_cons_of_mem _ hy)
/-- a loop that ends with o at the first x that is not of a kind -/
theorem forGo_allB {α : Type} {enc : α → D} {gg : FG} {bd : FS} {all : List D} {φ : Fs} (p : α → Bool) (o : Out) : ∀ (xs : List α), (∀ x ∈ xs, ∃ φ1, gg (enc x) φ = some φ1 ∧ ∃ ψ, bd φ1 = some (if p x = true then .nx φ else .rt o ψ)) → ∃ r, forGo gg bd all none (xs.map enc) φ = some r ∧ (xs.all p = true → r = .nx φ) ∧ (xs.all p = false → ∃ ψ, r = .rt o ψ)
  | [], _ => ⟨_, rfl, fun _ => rfl, fun z => by cases z⟩
  | x :: xs, h => by
    obtain ⟨φ1, h1, ψ, h2⟩ := h x List.mem_cons_self
    rw [List.map_cons, forGo_cons, h1, List.all_cons]
    cases hp : p x with
    | true =>
      simp only [hp, if_true] at h2
      simp only [h2, Bool.true_and]
      exact forGo_allB p o xs fun y hy => h y (List.mem_cons_of_mem _ hy)
    | false =>
      simp only [hp, Bool.false_eq_true, if_false] at h2
      simp only [h2, Bool.false_and]
      exact ⟨_, rfl, fun z => (by cases z), fun _ => ⟨ψ, rfl⟩⟩
end
theorem g_lt {α : Type} {p q : Nat} {x y : α} (h : p < q) : (if p < q then x else y) = x := if_pos h
theorem g_le {α : Type} {p q : Nat} {x y : α} (h : p ≤ q) : (if p ≤ q then x else y) = x := if_pos h
theorem nlO_ret {d : D} : nlO (.ret d) = nl d := rfl
theorem drop_min {α : Type} {xs : List α} {k : Nat} : xs.drop (min k xs.length) = xs.drop k := by
  by_cases h : k ≤ xs.length
  · rw [Nat.min_eq_left h]
  · rw [Nat.min_eq_right (by omega), List.drop_length, List.drop_eq_nil_of_le (by omega)]
theorem n_cut3 {ds : List D} {p q : Nat} : cutD ds (some (p : Int)) (some (q : Int)) = (ds.drop p).take (q - p) := by
  unfold cutD
  rw [HT.sIx_nat, HT.sIx_nat, drop_min]
  by_cases h : p ≤ ds.length
  · by_cases h2 : q ≤ ds.length
    · rw [Nat.min_eq_left h, Nat.min_eq_left h2]
    · rw [Nat.min_eq_left h, Nat.min_eq_right (by omega), List.take_of_length_le (by rw [List.length_drop]; omega), List.take_of_length_le (by rw [List.length_drop]; omega)]
  · rw [List.drop_eq_nil_of_le (by omega), List.take_nil, List.take_nil]
theorem n_cut1 {ds : List D} {p : Nat} : cutD ds (some (p : Int)) none = ds.drop p := by
  unfold cutD
  rw [HT.sIx_nat, HT.sIx_none, drop_min, List.take_of_length_le]
  rw [List.length_drop]
  omega
theorem n_cut2 {ds : List D} {q : Nat} : cutD ds none (some (q : Int)) = ds.take q := by
  unfold cutD
  rw [HT.sIx_nat, HT.sIx_none, List.drop_zero, Nat.sub_zero]
  by_cases h2 : q ≤ ds.length
  · rw [Nat.min_eq_left h2]
  · rw [Nat.min_eq_right (by omega), List.take_of_length_le (by omega), List.take_of_length_le (by omega)]
theorem n_cut0 {ds : List D} : cutD ds none none = ds := cutD_whole ⟨rfl, rfl⟩
def lcR (p : Option Bool) (v : Option D) : Option (Option D) := match p with
  | some true => v.map some
  | some false => some none
  | none => none
theorem lc1_y {gg : FG} {c el : FE} {φ : Fs} {d : D} : lc1 gg c el φ d = (gg d φ).bind fun φ1 => lcR (okB (c φ1)) (okV (el φ1)) := by
  unfold lc1
  cases gg d φ with
  | none => rfl
  | some φ1 => rfl
theorem lcR_b {p : Bool} {x : D} : lcR (some p) (some x) = some (if p = true then some x else none) := by cases p <;> rfl
theorem lcR_f {v : Option D} : lcR (some false) v = some none := rfl
theorem lcR_t {x : D} : lcR (some true) (some x) = some (some x) := rfl
theorem isLst_l {ds : List D} : isLst (.lst ds) = true := rfl
end Lv

local macro_rules | `(tactic| walk_at "fdis") => `(tactic| first | exact Lv.x_fz1 | exact Lv.x_fz2 | assumption | (simp only [Lv.fzA_cons, Lv.fzA_nil, Lv.x_fz1, Lv.x_fz2, Lv.x_fz3, Lv.x_fz4, Lv.y_lz0, Lv.y_lz1, Lv.isLst_l, Bool.and_true, Bool.true_and, Bool.true_or, Bool.or_true, Bool.false_or]; done) | exact Lv.x_fz1 | exact Lv.x_fz2 | assumption | omega | decide | (simp only [List.length_map, List.length_append, List.length_cons, List.length_nil, List.length_range, List.length_reverse]; omega) | (simp only [List.length_map, List.length_append, List.length_cons, List.length_nil, List.length_range, List.length_reverse]; first | exact .inl (by omega) | exact .inr (by omega)) | exact .inl (by omega) | exact .inr (by omega) | exact .inl (by decide) | exact .inr (by decide) | rfl)
local macro_rules | `(tactic| dsimp! [ $ts,* ]) => `(tactic| simp (disch := walk_at "fdis") only [Lv.x_seq, Lv.x_sbn1, Lv.x_sbn2, Lv.x_sbn3, Lv.x_sbn4, Lv.x_sbn5, Lv.x_if, Lv.x_ifb1, Lv.x_ifb2, Lv.x_ifb3, Lv.y_ifb, Lv.x_next, Lv.x_break, Lv.x_cont, Lv.x_set, Lv.x_setN, Lv.x_drop, Lv.x_ret, Lv.x_retN, Lv.x_retO_pl, Lv.x_retO_nw, Lv.x_retO_ow, Lv.x_frz, Lv.x_frzS, Lv.x_frzOk, Lv.x_frzOk2, Lv.x_frzOk3, Lv.x_fz1, Lv.x_fz2, Lv.x_fz3, Lv.x_fz4, Lv.x_wipe, Lv.x_wipeB1, Lv.x_wipeB2, Lv.x_wipeB3, Lv.x_wipeB4, Lv.x_wipeB5, Lv.x_wipeS0, Lv.x_wipeS1, Lv.x_brO1, Lv.x_brO2, Lv.x_brO3, Lv.x_var, Lv.y_lit, Lv.y_str, Lv.y_blc, Lv.y_nonc, Lv.y_refc, Lv.y_tyc, Lv.y_op, Lv.y_op1, Lv.y_and, Lv.y_or, Lv.y_and1, Lv.y_or1, Lv.y_and2, Lv.y_or2, Lv.y_and3, Lv.y_or3, Lv.y_not, Lv.y_not1, Lv.y_bl, Lv.y_bl1, Lv.y_tru, Lv.y_tru1, Lv.y_tru2, Lv.y_tru3, Lv.bl1_bl, Lv.x_yes, Lv.x_ife, Lv.x_nil, Lv.x_cons, Lv.fzA_nil, Lv.fzA_cons, Lv.x_tup, Lv.x_lst, Lv.x_cb, Lv.ab_ok, Lv.ab_ex, Lv.rb_ok, Lv.rb_ex, Lv.sb_pl, Lv.sb_nw, Lv.sb_ex, Lv.x_lenL, Lv.x_lenT, Lv.x_lenC, Lv.x_listL, Lv.x_listT, Lv.x_tupleL, Lv.x_tupleT, Lv.x_int, Lv.x_oNo, Lv.x_oAt, Lv.x_sl, Lv.x_call, Lv.x_call0, Lv.x_noEx1, Lv.x_outR1, Lv.x_outR2, Lv.x_outR3, Lv.n_add, Lv.n_sub, Lv.n_mul, Lv.n_div, Lv.n_mod, Lv.n_lt, Lv.n_le, Lv.n_gt, Lv.n_ge, Lv.n_eq, Lv.n_ne, Lv.n_ixL, Lv.n_ixT, Lv.n_ixC, Lv.n_addL, Lv.n_addT, Lv.n_addS, Lv.x_eq_s, Lv.x_eq_b, Lv.x_ne_s, Lv.x_ne_b, Lv.x_cellOf, Lv.x_putCell, Lv.x_app, Lv.x_ext, Lv.x_asg, Lv.x_gN, Lv.x_iSeq, Lv.x_itsL, Lv.x_itsT, Lv.x_iVar, Lv.y_rng1, Lv.n_rng, Lv.y_rng2, Lv.n_rng2, Lv.x_for, Lv.x_pin, Lv.x_unpin, Lv.x_okB, Lv.x_okV, List.set_cons_zero, List.set_cons_succ, List.getElem?_cons_zero, List.getElem?_cons_succ, List.getElem?_map, Option.map_some, Option.bind_some, List.map_cons, List.map_nil, Bool.true_and, Bool.and_true, Bool.false_and, Bool.and_false, Bool.not_true, Bool.not_false, Bool.or_false, Bool.false_or, Bool.true_or, Bool.or_true, if_true, if_false, true_and, and_true, List.length_cons, List.length_nil, List.length_map, List.length_range, Nat.reduceAdd, Nat.reduceLeDiff, Bool.false_eq_true, reduceIte, Lv.y_argOk, Lv.y_argOkL, Lv.y_lz0, Lv.y_lz1, Lv.y_meth, Lv.y_meth0, Lv.y_make, Lv.y_make0, Lv.y_makeD, Lv.y_isObj1, Lv.y_isObj2, Lv.y_raiseF, Lv.y_raiseO, Lv.y_try, Lv.y_noX1, Lv.y_noX0, Lv.y_isX1, Lv.y_isX2, Lv.y_isX3, Lv.y_isX4, Lv.y_clr1, Lv.y_clr2, Lv.y_clr3, Lv.y_isX, Lv.y_clsR, Lv.y_clsT, Lv.y_xf, Lv.y_look1, Lv.y_clear, Lv.y_rev, Lv.y_count, Lv.y_bls0, Lv.y_bls1, Lv.y_own, Lv.y_ownIn, Lv.y_isiL, Lv.y_isiT, Lv.y_isiB, Lv.y_isiS, Lv.y_isiI, Lv.y_isiIB, Lv.x_fld, Lv.x_fldS, Lv.x_prop, Lv.x_drop, Lv.y_call, eq_self_iff_true, List.nil_append, List.cons_append, List.length_append, List.length_set, Lv.g_lt, Lv.g_le, Lv.n_cut1, Lv.n_cut2, Lv.n_cut3, Lv.n_cut0, List.drop_succ_cons, List.drop_zero, List.take_succ_cons, List.take_zero, List.take_nil, List.drop_nil, Lv.lc1_y, Lv.lcR_t, Lv.lcR_f, Lv.lcR_b, $ts,*])
/-! a text times a number -/
namespace Lv
open PySem L2 PyProof.Rows
open Classical
def rMulS : R2 := fun x y H Q => ∃ z n, x = .str z ∧ y = .int n ∧ PySem.MulOk z n ∧ Q (.str (Txt.mul z n)) H
theorem op_mulS {X : Cx} : OpR X (binaryOp .Mult) rMulS := by
  intro pins s σ H x y v u Q I rx ry h
  obtain ⟨z, n, rfl, rfl, hok, q⟩ := h
  obtain ⟨t, rfl⟩ := rx
  obtain ⟨t2, rfl⟩ := ry
  refine SB.mul hok fun t' k => ?_
  exact ⟨.str (Txt.mul z n), H, I.kept (t' := k) fun _ _ e => e, ⟨_, rfl⟩, q⟩
noncomputable def mulSF : D → D → Option (Kd × D)
  | .str z, .int n => if PySem.MulOk z n then some (.pl, .str (Txt.mul z n)) else none
  | _, _ => none
theorem of_mulS {K : PySem.W.Frag} : OpF K rMulS mulSF := fun cs x y k z h => by
  unfold mulSF at h
  split at h
  · split at h
    · rename_i s n hok
      cases h
      exact .inl ⟨rfl, fun G H vx vy w rx ry Q q => ⟨s, n, rx.str w, ry.int w, hok, q _ G H (Nx.refl w.sub) (.str _)⟩⟩
    · cases h
  · cases h
theorem y_mulS {z : Str} {n : Int} : mulSF (.str z) (.int n) = if PySem.MulOk z n then some (.pl, .str (Txt.mul z n)) else none := rfl
end Lv

/-! dicts whose keys are tuples of any depth -/
namespace Lv
open PySem L2 PyProof.Rows
open Classical
mutual
/-- in the heap the value is this key -/
inductive NKey (K : PySem.W.Frag) (H : Hp) : NestedKey → V → Prop
  | none : NKey K H .none .non
  | num (i : Int) : NKey K H (.num i) (.int i)
  | text (x : Str) : NKey K H (.text x) (.str x)
  | tup {a : Addr} {vs : List V} {ks : List NestedKey} : SqT K H a vs → NKeyL K H ks vs → NKey K H (.tup ks) (.ref a)
inductive NKeyL (K : PySem.W.Frag) (H : Hp) : List NestedKey → List V → Prop
  | nil : NKeyL K H [] []
  | cons {k : NestedKey} {v : V} {ks : List NestedKey} {vs : List V} : NKey K H k v → NKeyL K H ks vs → NKeyL K H (k :: ks) (v :: vs)
end
section
variable {X : Cx} {pins : List (Addr × Obj)} {σ : L2.St} {H : Hp} {s : Shared}
mutual
theorem nkey_is (I : L2.Inv X pins σ H s) : ∀ {k : NestedKey} {v : V} {u : Value}, NKey X.K H k v → RelV v u → NestedIs s.heap k u
  | _, _, _, .none, r => by cases r; exact .none
  | _, _, _, .num i, r => by obtain ⟨t, rfl⟩ := r; exact .int i t
  | _, _, _, .text x, r => by obtain ⟨t, rfl⟩ := r; exact .text x t
  | _, _, _, .tup h l, r => by
    cases r
    obtain ⟨its, rv, ⟨o, ho, hc, n, hd⟩, hz⟩ := I.tuple h
    exact .tup ho hc hd (nkey_all I l rv)
theorem nkey_all (I : L2.Inv X pins σ H s) : ∀ {ks : List NestedKey} {vs : List V} {us : List Value}, NKeyL X.K H ks vs → Vals vs us → NestedAll s.heap ks us
  | _, _, _, .nil, r => by cases r; exact .nil
  | _, _, _, .cons h l, r => by
    cases r with
    | cons r1 r2 => exact .cons (nkey_is I h r1) (nkey_all I l r2)
end
end
section
variable {K : PySem.W.Frag} {G H : Hp}
mutual
theorem rep_key (x : Evl.Ex G H) : ∀ {v : V} {d : D} {k : NestedKey}, Rep K G v d → keyN d = some k → NKey K H k v
  | _, _, k, .non, e => by rw [keyN] at e; cases e; exact .none
  | _, _, k, .int i, e => by rw [keyN] at e; cases e; exact .num i
  | _, _, k, .str s, e => by rw [keyN] at e; cases e; exact .text s
  | _, .tup ds, k, .tup h r, e => by
    rw [keyN] at e
    cases hk : keysN ds with
    | none => rw [hk] at e; cases e
    | some ks =>
      rw [hk] at e
      cases e
      exact .tup (Evl.ex_t x h.sq) (rep_keys x r hk)
  | _, .bl b, k, .bl _, e => by simp [keyN] at e
  | _, .lst ds, k, .lst _ _, e => by simp [keyN] at e
  | _, .scr ns, k, .scr _, e => by simp [keyN] at e
  | _, .obj C fs, k, .obj _ _, e => by simp [keyN] at e
  | _, .dik ds, k, .dik _ _ _, e => by simp [keyN] at e
  | _, .dit ds, k, .dit _ _ _, e => by simp [keyN] at e
  | _, .dix w ds, k, .dix _ _ _ _, e => by simp [keyN] at e
  | _, .any v, k, .any _, e => by simp [keyN] at e
theorem rep_keys (x : Evl.Ex G H) : ∀ {vs : List V} {ds : List D} {ks : List NestedKey}, RepL K G vs ds → keysN ds = some ks → NKeyL K H ks vs
  | _, _, ks, .nil, e => by rw [keysN] at e; cases e; exact .nil
  | _, d :: ds, ks, .cons h r, e => by
    rw [keysN] at e
    cases h1 : keyN d with
    | none => rw [h1] at e; cases e
    | some k =>
      cases h2 : keysN ds with
      | none => rw [h1, h2] at e; cases e
      | some kk =>
        rw [h1, h2] at e
        cases e
        exact .cons (rep_key x h h1) (rep_keys x r h2)
end
end
/-! ### the readings -/
/-- the dict at a, the key b -/
def DxAt (K : PySem.W.Frag) (w : World) (H : Hp) (a b : Addr) (xs : List (NestedKey × Addr × Value)) (k : NestedKey) : Prop := H a = some (.ext (dxP a w xs)) ∧ (∀ e ∈ xs, NKey K H e.1 (.ref e.2.1)) ∧ NKey K H k (.ref b) ∧ k.depth ≤ 8
def tXIn (K : PySem.W.Frag) (w : World) (neg : Bool) (ty td : TE) : TE := fun σ H Q => ty σ H fun y H1 => td σ H1 fun x H2 => ∃ a b xs k, x = .ref a ∧ y = .ref b ∧ DxAt K w H2 a b xs k ∧ Q (.bl (if neg then !(atKey xs k).isSome else (atKey xs k).isSome)) H2
def tXGet (K : PySem.W.Frag) (w : World) (td ty : TE) : TE := fun σ H Q => td σ H fun x H1 => ty σ H1 fun y H2 => ∃ a b xs k p v, x = .ref a ∧ y = .ref b ∧ DxAt K w H2 a b xs k ∧ atKey xs k = some p ∧ RelV v p.2 ∧ Q v H2
def sXPut (K : PySem.W.Frag) (w : World) (td ty tv : TE) : TS := fun D σ H => tv σ H fun v H1 => td σ H1 fun x H2 => ty σ H2 fun y H3 => ∃ a b xs k, x = .ref a ∧ y = .ref b ∧ DxAt K w H3 a b xs k ∧ xs.length < sizeLine ∧ ∀ u, RelV v u → D.nx σ (upd H3 a (.ext (dxP a w (storedH xs k b u))))
def tXNew (w : World) : TE := fun _ H Q => ∀ p, H p = none → Q (.ref p) (upd H p (.ext (dxP p w [])))
section
variable {X : Cx} {td ty tv : TE} {o i value : Expr} {pos pos' : Pos}
theorem dx_of {pins : List (Addr × Obj)} {σ : L2.St} {H : Hp} {s : Shared} {a b : Addr} {xs : List (NestedKey × Addr × Value)} {k : NestedKey} (I : L2.Inv X pins σ H s) (h : DxAt X.K X.w H a b xs k) : s.heap.DictOfH (nestedKind X.prog X.w) a xs ∧ (nestedKind X.prog X.w).is s.heap k b ∧ (a == sysModules) = false ∧ xs.length ≤ sizeLine := by
  obtain ⟨h1, h2, h3, h4⟩ := h
  obtain ⟨⟨hsys, hsz, hnd, hdep, o, es, ep, ho, hx, hd, he⟩, _, _⟩ := I.hok a _ h1
  exact ⟨⟨o, es, ep, ho, hx, hd, he, fun x hx => ⟨nkey_is I (h2 x hx) rfl, hdep x hx⟩, hnd⟩, ⟨nkey_is I h3 rfl, h4⟩, hsys, hsz⟩
theorem room_nk (hu : X.A.units + 64 < cLine) : (nestedKind X.prog X.w).room X.A.in1 := by
  show X.A.units + 1 + 8 < cLine
  omega
theorem pc_xin (K : PySem.W.Frag) (w : World) (hu : X.A.units + 64 < cLine) (hi : PE X i ty) (ho : PE X o td) (hK : X.K = K := by rfl) (hw : X.w = w := by rfl) : PC X .In i o (tXIn K w false ty td) := by
  subst hK
  subst hw
  refine ⟨fun pins s σ H Q I h => ?_⟩
  refine thn (hi.run pins s σ H _ I h) fun iv s1 ⟨y, H1, I1, ry, q1⟩ => thn (ho.run pins s1 σ H1 _ I1 q1) fun u s2 ⟨x, H2, I2, rx, a, b, xs, k, ex, ey, g, q2⟩ => ?_
  subst ex
  subst ey
  cases rx
  cases ry
  obtain ⟨m1, m2, m3, _⟩ := dx_of I2 g
  exact wpAny_in_heap (room_nk hu) m2 m3 m1 ⟨.bl _, H2, I2.kept fun _ _ e => e, rfl, q2⟩
theorem pc_xnin (K : PySem.W.Frag) (w : World) (hu : X.A.units + 64 < cLine) (hi : PE X i ty) (ho : PE X o td) (hK : X.K = K := by rfl) (hw : X.w = w := by rfl) : PC X .NotIn i o (tXIn K w true ty td) := by
  subst hK
  subst hw
  refine ⟨fun pins s σ H Q I h => ?_⟩
  refine thn (hi.run pins s σ H _ I h) fun iv s1 ⟨y, H1, I1, ry, q1⟩ => thn (ho.run pins s1 σ H1 _ I1 q1) fun u s2 ⟨x, H2, I2, rx, a, b, xs, k, ex, ey, g, q2⟩ => ?_
  subst ex
  subst ey
  cases rx
  cases ry
  obtain ⟨m1, m2, m3, _⟩ := dx_of I2 g
  show wpAny _ _ (do return Value.bool (!(← contains (.ref a) (.ref b)))) _ _ _
  exact wpAny_bind (wpAny_contains_heap (room_nk hu) m2 m3 m1 (wpAny_pure ⟨.bl _, H2, I2.kept fun _ _ e => e, rfl, q2⟩))
theorem pe_xget (K : PySem.W.Frag) (w : World) (hu : X.A.units + 64 < cLine) (ho : PE X o td) (hi : PE X i ty) (hs : NoSl i) (hK : X.K = K := by rfl) (hw : X.w = w := by rfl) : PE X (.Subscript o i pos) (tXGet K w td ty) := by
  subst hK
  subst hw
  refine ⟨fun pins s σ H Q I h => ?_⟩
  refine subD_of PySem.F.slot_dict_getitem.lookup hs (thn (ho.run pins s σ H _ I h) fun u s1 ⟨x, H1, I1, rx, q1⟩ => thn (hi.run pins s1 σ H1 _ I1 q1) fun iv s2 ⟨y, H2, I2, ry, a, b, xs, k, p, v, ex, ey, g, hp, rv, q2⟩ => ?_)
  subst ex
  subst ey
  cases rx
  cases ry
  obtain ⟨m1, m2, m3, _⟩ := dx_of I2 g
  exact ⟨m1.typeIs, wpAny_getItem_heap (room_nk hu) m2 m1 hp ⟨v, H2, I2.kept fun _ _ e => e, rv, q2⟩⟩
theorem ps_xput (K : PySem.W.Frag) (w : World) (hu : X.A.units + 64 < cLine) (ho : PE X o td) (hi : PE X i ty) (hv : PE X value tv) (hs : swapsWith value (some (.Subscript o i pos')) pos.line X.env = pure false) (hK : X.K = K := by rfl) (hw : X.w = w := by rfl) :
    PS X (.Assign [.Subscript o i pos'] value pos) (sXPut K w td ty tv) := by
  subst hK
  subst hw
  refine ⟨fun pins s σ H D I h => ?_⟩
  refine wpAny_Assign_Subscript (thn (hv.run pins s σ H _ I h) fun r s1 ⟨v, H1, I1, rv, q1⟩ => thn (ho.run pins s1 σ H1 _ I1 q1) fun u s2 ⟨x, H2, I2, rx, q2⟩ => thn (hi.run pins s2 σ H2 _ I2 q2) fun iv s3 ⟨y, H3, I3, ry, a, b, xs, k, ex, ey, g, hz, q3⟩ => ?_) hs
  subst ex
  subst ey
  cases rx
  cases ry
  obtain ⟨m1, m2, m3, m4⟩ := dx_of I3 g
  refine wpAny_setItem_heap (hsz := m4) (room_nk hu) m2 m1 fun h' hm' hs' => ?_
  obtain ⟨o', es', ep', ho', hx', hd', he', hi', hn'⟩ := hm'
  refine ⟨σ, _, I3.write (x := a) (e := a) (t' := _) (by rw [g.1]; trivial) (.inl rfl) (fun b' u' hb' e' => (hs'.2 b' hb').trans e') ⟨o', ho'⟩ ?_, q3 r rv⟩
  have hst : ∀ h1 h2 : Heap, dxP a X.w (storedH xs k b r) h1 → (∀ o, h1.get? a = some o → h2.get? a = some o) → dxP a X.w (storedH xs k b r) h2 := fun h1 h2 ⟨z1, z2, z3, z4, o, es, ep, zo, zr⟩ hh => ⟨z1, z2, z3, z4, o, es, ep, hh _ zo, zr⟩
  refine ⟨⟨m3, ?_, hn', fun x hx => (hi' x hx).2, o', es', ep', ho', hx', hd', he'⟩, ⟨o', ho'⟩, hst⟩
  have : (storedH xs k b r).length ≤ xs.length + 1 := by
    unfold storedH
    split
    · rw [List.length_map]; omega
    · rw [List.length_append, List.length_singleton]; exact Nat.le_refl _
  omega
theorem pe_xnew (w : World) (hw : X.w = w := by rfl) : PE X (.Dict [] [] pos) (tXNew w) := by
  subst hw
  exact ⟨fun pins s σ H Q I h =>
    wpAny_Dict_empty ⟨.ref s.heap.objs.size, _, I.laid (a := s.heap.objs.size) (o := .ext (dxP s.heap.objs.size X.w [])) (t' := s.toks) (fun _ _ q => Heap.get?_push_of_some _ q) (Nat.le_refl _) ⟨⟨beq_eq_false_iff_ne.mpr (Ne.symm (Nat.ne_of_lt I.big)), Nat.zero_le _, List.nodup_nil, by simp, _, #[], 0, Heap.get?_push_size _ rfl, ⟨rfl, rfl, rfl⟩, rfl, rfl⟩, ⟨_, Heap.get?_push_size _ rfl⟩, fun h1 h2 ⟨z1, z2, z3, z4, o, es, ep, zo, zr⟩ hh => ⟨z1, z2, z3, z4, o, es, ep, hh _ zo, zr⟩⟩, rfl, h _ (I.hok.fresh (Nat.le_refl _))⟩⟩
end
end Lv

/-! F: dicts whose keys are tuples of any depth -/
namespace Lv
open PySem L2
open Evl (Ex)
open Classical
class Wn where
  w : World
/-- the entry under a key -/
noncomputable def dxFind (es : List (D × D)) (k : D) : Option D := (es.find? fun e => decide (e.1 = k)).map (·.2)
noncomputable def dxSet (es : List (D × D)) (k v : D) : List (D × D) := if (dxFind es k).isSome then es.map fun e => if e.1 = k then (e.1, v) else e else es ++ [(k, v)]
/-- a tuple that may be a key -/
def xKey : D → Bool
  | .tup ds => match keyN (.tup ds) with
    | some k => decide (k.depth ≤ 8)
    | none => false
  | _ => false
mutual
theorem keyN_inj : ∀ {d e : D} {k : NestedKey}, keyN d = some k → keyN e = some k → d = e
  | .non, e, k, h, h2 => by
    rw [keyN] at h; cases h
    cases e with
    | non => rfl
    | tup ds => rw [keyN] at h2; cases hh : keysN ds with
      | none => rw [hh] at h2; cases h2
      | some x => rw [hh] at h2; cases h2
    | _ => simp [keyN] at h2
  | .int i, e, k, h, h2 => by
    rw [keyN] at h; cases h
    cases e with
    | int j => rw [keyN] at h2; cases h2; rfl
    | tup ds => rw [keyN] at h2; cases hh : keysN ds with
      | none => rw [hh] at h2; cases h2
      | some x => rw [hh] at h2; cases h2
    | _ => simp [keyN] at h2
  | .str i, e, k, h, h2 => by
    rw [keyN] at h; cases h
    cases e with
    | str j => rw [keyN] at h2; cases h2; rfl
    | tup ds => rw [keyN] at h2; cases hh : keysN ds with
      | none => rw [hh] at h2; cases h2
      | some x => rw [hh] at h2; cases h2
    | _ => simp [keyN] at h2
  | .tup ds, e, k, h, h2 => by
    rw [keyN] at h
    cases hk : keysN ds with
    | none => rw [hk] at h; cases h
    | some ks =>
      rw [hk] at h
      cases h
      cases e with
      | tup es =>
        rw [keyN] at h2
        cases hk2 : keysN es with
        | none => rw [hk2] at h2; cases h2
        | some ks2 =>
          rw [hk2] at h2
          cases h2
          rw [keysN_inj hk hk2]
      | _ => simp [keyN] at h2
  | .bl _, e, k, h, h2 => by simp [keyN] at h
  | .lst _, e, k, h, h2 => by simp [keyN] at h
  | .obj _ _, e, k, h, h2 => by simp [keyN] at h
  | .scr _, e, k, h, h2 => by simp [keyN] at h
  | .xdc _, e, k, h, h2 => by simp [keyN] at h
  | .sit _ _, e, k, h, h2 => by simp [keyN] at h
  | .dik _, e, k, h, h2 => by simp [keyN] at h
  | .dit _, e, k, h, h2 => by simp [keyN] at h
  | .dix _ _, e, k, h, h2 => by simp [keyN] at h
  | .any _, e, k, h, h2 => by simp [keyN] at h
theorem keysN_inj : ∀ {ds es : List D} {ks : List NestedKey}, keysN ds = some ks → keysN es = some ks → ds = es
  | [], es, ks, h, h2 => by
    rw [keysN] at h; cases h
    cases es with
    | nil => rfl
    | cons e es =>
      rw [keysN] at h2
      cases h3 : keyN e <;> cases h4 : keysN es <;> rw [h3, h4] at h2 <;> cases h2
  | d :: ds, es, ks, h, h2 => by
    rw [keysN] at h
    cases h3 : keyN d with
    | none => rw [h3] at h; cases h
    | some a =>
      cases h4 : keysN ds with
      | none => rw [h3, h4] at h; cases h
      | some b =>
        rw [h3, h4] at h
        cases h
        cases es with
        | nil => rw [keysN] at h2; cases h2
        | cons e es =>
          rw [keysN] at h2
          cases h5 : keyN e with
          | none => rw [h5] at h2; cases h2
          | some a2 =>
            cases h6 : keysN es with
            | none => rw [h5, h6] at h2; cases h2
            | some b2 =>
              rw [h5, h6] at h2
              cases h2
              rw [keyN_inj h3 h5, keysN_inj h4 h6]
end
section
variable {K : PySem.W.Frag} {G G0 G1 G2 G3 H H0 H1 H2 H3 : Hp} {ρ ρ1 : Ro} {cs cs' : Cs} {ta tb te tx td ty tv : TE} {tt tu : TT} {d d' e x y z : D} {W : WX} {bs : List Addr} {ε : Xe} {t u : TS} {A B C E : FE} {tr : TA} {T : FA} {as : Nat → Addr} {φ φ' φ1 φ2 : Fs} {F M N : FS} {P : Po} {w0 : World}
/-- entry by entry -/
inductive DxR (K : PySem.W.Frag) (G : Hp) : List (NestedKey × Addr × Value) → List (D × D) → Prop
  | nil : DxR K G [] []
  | cons {k : NestedKey} {b : Addr} {u : Value} {v : V} {d e : D} {xs : List (NestedKey × Addr × Value)} {es : List (D × D)} : keyN d = some k → Rep K G (.ref b) d → RelV v u → Rep K G v e → DxR K G xs es → DxR K G ((k, b, u) :: xs) ((d, e) :: es)
theorem dxr_of : ∀ {xs : List (NestedKey × Addr × Value)} {us : List V} {es : List (D × D)}, DxK xs us es → RepL K G (xs.map fun x => V.ref x.2.1) (es.map Prod.fst) → RepL K G us (es.map Prod.snd) → DxR K G xs es
  | [], us, es, h, r1, r2 => by
    cases es with
    | nil => exact .nil
    | cons e es => cases r1
  | (k, b, u) :: xs, us, es, ⟨h1, h2⟩, r1, r2 => by
    cases es with
    | nil => cases r1
    | cons e es =>
      cases us with
      | nil => cases r2
      | cons v us =>
        cases r1 with
        | cons r1a r1b =>
          cases r2 with
          | cons r2a r2b =>
            cases h1 with
            | cons h1a h1b =>
              rw [List.map_cons, keysN] at h2
              cases h3 : keyN e.1 with
              | none => rw [h3] at h2; cases h2
              | some a =>
                cases h4 : keysN (es.map Prod.fst) with
                | none => rw [h3, h4] at h2; cases h2
                | some b =>
                  rw [h3, h4] at h2
                  have e1 : a = k := by injection h2 with h2; exact (List.cons.inj h2).1
                  have e2 : b = xs.map (·.1) := by injection h2 with h2; exact (List.cons.inj h2).2
                  subst e1
                  exact .cons h3 r1a h1a r2a (dxr_of ⟨h1b, by rw [h4, e2]⟩ r1b r2b)
theorem dxr_to : ∀ {xs : List (NestedKey × Addr × Value)} {es : List (D × D)}, DxR K G xs es → ∃ us, DxK xs us es ∧ RepL K G (xs.map fun x => V.ref x.2.1) (es.map Prod.fst) ∧ RepL K G us (es.map Prod.snd)
  | _, _, .nil => ⟨[], ⟨.nil, rfl⟩, .nil, .nil⟩
  | _, _, .cons (k := k) (v := v) (d := d) (es := es) h r1 rv r2 t => by
    obtain ⟨us, ⟨a, b⟩, c, e⟩ := dxr_to t
    refine ⟨v :: us, ⟨.cons rv a, ?_⟩, .cons r1 c, .cons r2 e⟩
    rw [List.map_cons, keysN, h, b]
    rfl
theorem DxR.mono (x : Ex G G2) : ∀ {xs : List (NestedKey × Addr × Value)} {es : List (D × D)}, DxR K G xs es → DxR K G2 xs es
  | _, _, .nil => .nil
  | _, _, .cons h r1 rv r2 t => .cons h (r1.mono x) rv (r2.mono x) (t.mono x)
theorem DxR.length : ∀ {xs : List (NestedKey × Addr × Value)} {es : List (D × D)}, DxR K G xs es → xs.length = es.length
  | _, _, .nil => rfl
  | _, _, .cons h r1 rv r2 t => by rw [List.length_cons, List.length_cons, t.length]
theorem DxR.keys (x : Ex G H) : ∀ {xs : List (NestedKey × Addr × Value)} {es : List (D × D)}, DxR K G xs es → ∀ e ∈ xs, NKey K H e.1 (.ref e.2.1)
  | _, _, .nil => fun e h => by cases h
  | _, _, .cons h r1 rv r2 t => fun e he => by
    rcases List.mem_cons.mp he with rfl | he
    · exact rep_key x r1 h
    · exact t.keys x e he
theorem dxf_cons {a b k : D} {es : List (D × D)} : dxFind ((a, b) :: es) k = if a = k then some b else dxFind es k := by
  unfold dxFind
  rw [List.find?_cons]
  by_cases h : a = k
  · rw [if_pos h]; simp [h]
  · rw [if_neg h]; simp [h]
theorem atk_cons {k k2 : NestedKey} {p : Addr × Value} {xs : List (NestedKey × Addr × Value)} : atKey ((k2, p) :: xs) k = if k2 = k then some p else atKey xs k := by
  unfold atKey
  rw [List.find?_cons]
  by_cases h : k2 = k
  · rw [if_pos h]; simp [h]
  · rw [if_neg h]; simp [h]
theorem DxR.find {k : D} {kk : NestedKey} (hk : keyN k = some kk) : ∀ {xs : List (NestedKey × Addr × Value)} {es : List (D × D)}, DxR K G xs es → (atKey xs kk = none ∧ dxFind es k = none) ∨ ∃ p v e, atKey xs kk = some p ∧ dxFind es k = some e ∧ RelV v p.2 ∧ Rep K G v e
  | _, _, .nil => .inl ⟨rfl, rfl⟩
  | _, _, .cons (k := k2) (d := d) h r1 rv r2 t => by
    rw [atk_cons, dxf_cons]
    by_cases hd : d = k
    · subst hd
      have : k2 = kk := by rw [h] at hk; cases hk; rfl
      rw [if_pos this, if_pos rfl]
      exact .inr ⟨_, _, _, rfl, rfl, rv, r2⟩
    · have : k2 ≠ kk := fun e => hd (keyN_inj h (by rw [hk, e]))
      rw [if_neg this, if_neg hd]
      exact t.find hk
theorem DxR.map {k : D} {kk : NestedKey} {v : V} {u : Value} {e : D} (hk : keyN k = some kk) (rv : RelV v u) (re : Rep K G v e) : ∀ {xs : List (NestedKey × Addr × Value)} {es : List (D × D)}, DxR K G xs es → DxR K G (xs.map (putAt kk u)) (es.map fun x => if x.1 = k then (x.1, e) else x)
  | _, _, .nil => .nil
  | _, _, .cons (k := k2) (d := d) h r1 rv0 r2 t => by
    rw [List.map_cons, List.map_cons]
    unfold putAt
    by_cases hd : d = k
    · subst hd
      have : k2 = kk := by rw [h] at hk; cases hk; rfl
      simp only [if_pos this, if_pos rfl]
      exact .cons h r1 rv re (t.map hk rv re)
    · have : k2 ≠ kk := fun e => hd (keyN_inj h (by rw [hk, e]))
      simp only [if_neg this, if_neg hd]
      exact .cons h r1 rv0 r2 (t.map hk rv re)
theorem DxR.app {xs ys : List (NestedKey × Addr × Value)} {es fs : List (D × D)} (h2 : DxR K G ys fs) : ∀ {xs : List (NestedKey × Addr × Value)} {es : List (D × D)}, DxR K G xs es → DxR K G (xs ++ ys) (es ++ fs)
  | _, _, .nil => h2
  | _, _, .cons h r1 rv r2 t => .cons h r1 rv r2 (DxR.app (xs := xs) (es := es) h2 t)
theorem DxR.put {k : D} {kk : NestedKey} {b : Addr} {v : V} {u : Value} {e : D} {xs : List (NestedKey × Addr × Value)} {es : List (D × D)} (h : DxR K G xs es) (hk : keyN k = some kk) (rb : Rep K G (.ref b) k) (rv : RelV v u) (re : Rep K G v e) : DxR K G (storedH xs kk b u) (dxSet es k e) := by
  unfold dxSet
  rcases h.find hk with ⟨e1, e2⟩ | ⟨p, v2, e0, e1, e2, _, _⟩
  · rw [storedH_new e1, e2]
    exact DxR.app (xs := []) (es := []) (.cons hk rb rv re .nil) h
  · rw [storedH_old e1, e2]
    exact h.map hk rv re
theorem RepC.dixC {v : V} {w0 : World} {es : List (D × D)} (w : Wl K G H cs) (r : RepC K G cs v (.dix w0 es)) : ∃ a xs, v = .ref a ∧ H a = some (.ext (dxP a w0 xs)) ∧ DxR K G xs es := by
  rcases r with r | ⟨a, rfl, c⟩
  · cases r with
    | dix h k r r2 => exact ⟨_, _, rfl, w.sub _ _ h, dxr_of k r r2⟩
  · obtain ⟨_, xs, us, e, k, r, r2⟩ := w.cell _ c
    exact ⟨a, xs, rfl, e, dxr_of k r r2⟩
theorem xKey_ok (h : xKey x = true) : ∃ ds kk, x = .tup ds ∧ keyN x = some kk ∧ kk.depth ≤ 8 := by
  cases x with
  | tup ds =>
    unfold xKey at h
    cases hk : keyN (.tup ds) with
    | none => simp only [hk] at h; cases h
    | some kk =>
      simp only [hk] at h
      exact ⟨ds, kk, rfl, rfl, of_decide_eq_true h⟩
  | _ => cases h
theorem dx_at {v b : V} {es : List (D × D)} (w : Wl K G H cs) (r : RepC K G cs v (.dix w0 es)) (rk : Rep K G b x) (hx : xKey x = true) :
    ∃ a bb xs kk, v = .ref a ∧ b = .ref bb ∧ DxAt K w0 H a bb xs kk ∧ keyN x = some kk ∧ DxR K G xs es := by
  obtain ⟨ds, kk, rfl, hk, hd⟩ := xKey_ok hx
  obtain ⟨a, xs, rfl, ha, kr⟩ := r.dixC w
  cases rk with
  | tup ht rl => exact ⟨a, _, xs, kk, rfl, rfl, ⟨ha, kr.keys w.sub, rep_key w.sub (Rep.tup ht rl) hk, hd⟩, hk, kr⟩
theorem ev_xin {neg : Bool} {es : List (D × D)} (hy : Ev K ty ρ cs x) (hd : EvR K td ρ cs (.dix w0 es)) (hx : xKey x = true) : Ev K (tXIn K w0 neg ty td) ρ cs (.bl (if neg then !(dxFind es x).isSome else (dxFind es x).isSome)) := fun G H σ w e Q q =>
  hy G H σ w e _ fun y G2 H2 n ry => hd G2 H2 σ (w.step n) (e.mono n.g) _ fun v G3 H3 n3 r => by
    obtain ⟨a, bb, xs, kk, rfl, rfl, hg, hk, kr⟩ := dx_at ((w.step n).step n3) r (ry.mono n3.g) hx
    refine ⟨a, bb, xs, kk, rfl, rfl, hg, ?_⟩
    have : (atKey xs kk).isSome = (dxFind es x).isSome := by
      rcases kr.find hk with ⟨e1, e2⟩ | ⟨p, v2, e0, e1, e2, _, _⟩ <;> rw [e1, e2] <;> rfl
    rw [this]
    exact q _ G3 H3 (n.trans n3) (.bl _)
theorem ev_xget {es : List (D × D)} (hd : EvR K td ρ cs (.dix w0 es)) (hy : Ev K ty ρ cs x) (hx : xKey x = true) (h : dxFind es x = some z) : Ev K (tXGet K w0 td ty) ρ cs z := fun G H σ w e Q q =>
  hd G H σ w e _ fun v G2 H2 n r => hy G2 H2 σ (w.step n) (e.mono n.g) _ fun y G3 H3 n3 ry => by
    obtain ⟨a, bb, xs, kk, rfl, rfl, hg, hk, kr⟩ := dx_at ((w.step n).step n3) (r.mono n3) ry hx
    rcases kr.find hk with ⟨e1, e2⟩ | ⟨p, v2, e0, e1, e2, rv, re⟩
    · rw [h] at e2; cases e2
    · rw [h] at e2
      cases e2
      exact ⟨a, bb, xs, kk, p, v2, rfl, rfl, hg, e1, rv, q v2 G3 H3 (n.trans n3) re⟩
theorem ed_xnew : EvD K (tXNew w0) ρ cs (.dix w0 []) := fun G H σ w e Q q p hp => q p G _ (Nx.newc w.sub hp) hp (Evl.fresh_back w.sub hp) ⟨[], [], upd_same, ⟨.nil, rfl⟩, .nil, .nil⟩
theorem sv_xput {a : Addr} {k : D} {es : List (D × D)} (hc : (a, .dix w0 es) ∈ cs) (ho : Ev K td ρ cs (.any (.ref a))) (hy : Ev K ty ρ cs k) (hv : Ev K tv ρ cs x) (hk : xKey k = true) (hz : es.length < 100000) (kk : P.nx ρ (setC a (.dix w0 (dxSet es k x)) cs)) :
    Sv K W bs (sXPut K w0 td ty tv) ρ cs P := fun G0 H0 G H σ E r e o => hv G H σ r.wl e _ fun v G2 H2 n rv => ho G2 H2 σ (r.step n).wl (e.mono n.g) _ fun x G3 H3 n3 rx => by
  cases rx
  refine hy G3 H3 σ ((r.step n).step n3).wl ((e.mono n.g).mono n3.g) _ fun y G4 H4 n4 ry => ?_
  have r4 := ((r.step n).step n3).step n4
  have rv4 := (rv.mono n3.g).mono n4.g
  obtain ⟨a', bb, xs, kk0, ea, rfl, hg, hk0, kr⟩ := dx_at r4.wl (.inr ⟨a, rfl, hc⟩) ry hk
  cases ea
  refine ⟨a, bb, xs, kk0, rfl, rfl, hg, by rw [kr.length]; exact Evl.sz_lt hz, fun u ru => ?_⟩
  obtain ⟨us, z1, z2, z3⟩ := dxr_to (kr.put hk0 ry ru rv4)
  exact o.nx G4 _ _ _ _ (r4.write (d' := .dix w0 (dxSet es k _)) hc ⟨_, us, upd_same, z1, z2, z3⟩) (((e.mono n.g).mono n3.g).mono n4.g) kk
/-- k in d, k not in d -/
noncomputable def fXIn (w0 : World) (neg : Bool) (a b : FE) : FE := fun φ => rb (a φ) fun k x => rb (b φ) fun _ y => match y with
  | .dix w1 es => if k.fz = true ∧ w1 = w0 ∧ xKey x = true then some (.ok .pl (.bl (if neg then !(dxFind es x).isSome else (dxFind es x).isSome))) else none
  | _ => none
noncomputable def fXGet (w0 : World) (a b : FE) : FE := fun φ => rb (a φ) fun _ x => rb (b φ) fun k y => match x with
  | .dix w1 es => if k.fz = true ∧ w1 = w0 ∧ xKey y = true then (dxFind es y).map fun z => .ok .pl z else none
  | _ => none
def fXNew (w0 : World) : FE := fun _ => some (.ok .nw (.dix w0 []))
theorem ef_xin {neg : Bool} (ha : EF K W bs ε ta A) (hb : EF K W bs ε tb B) : EF K W bs ε (tXIn K w0 neg ta tb) (fXIn w0 neg A B) := fun as xs φ r xo h => by
  rcases rb_some h with ⟨c, g, e, rfl⟩ | ⟨kd, x, e, h3⟩
  · exact fun G H σ w en Q q => ha as xs φ _ xo e G H σ w en _ q
  rcases rb_some h3 with ⟨c, g, e2, rfl⟩ | ⟨kd2, y, e2, h4⟩
  · exact fun G H σ w en Q q => (ha as xs φ _ xo e).rd G H σ w en _ fun v G2 H2 n rv => hb as xs φ _ xo e2 G2 H2 σ (w.step n) (en.mono n.g) _ (getsM_step n q)
  clear h h3
  cases y with
  | dix w1 es =>
    simp only at h4
    split at h4
    · rename_i hk
      obtain ⟨h1, rfl, h3⟩ := hk
      cases h4
      exact (ev_xin ((ha as xs φ _ xo e).ev h1) (hb as xs φ _ xo e2).rd h3).m
    · cases h4
  | _ => cases h4
theorem ef_xget (ha : EF K W bs ε ta A) (hb : EF K W bs ε tb B) : EF K W bs ε (tXGet K w0 ta tb) (fXGet w0 A B) := fun as xs φ r xo h => by
  rcases rb_some h with ⟨c, g, e, rfl⟩ | ⟨kd, x, e, h3⟩
  · exact fun G H σ w en Q q => ha as xs φ _ xo e G H σ w en _ q
  rcases rb_some h3 with ⟨c, g, e2, rfl⟩ | ⟨kd2, y, e2, h4⟩
  · exact fun G H σ w en Q q => (ha as xs φ _ xo e).rd G H σ w en _ fun v G2 H2 n rv => hb as xs φ _ xo e2 G2 H2 σ (w.step n) (en.mono n.g) _ (getsM_step n q)
  clear h h3
  cases x with
  | dix w1 es =>
    simp only at h4
    split at h4
    · rename_i hk
      obtain ⟨h1, rfl, h3⟩ := hk
      cases hf : dxFind es y with
      | none => rw [hf] at h4; cases h4
      | some z =>
        rw [hf] at h4
        cases h4
        exact (ev_xget (ha as xs φ _ xo e).rd ((hb as xs φ _ xo e2).ev h1) h3 hf).m
    · cases h4
  | _ => cases h4
theorem ef_xnew : EF K W bs ε (tXNew w0) (fXNew w0) := fun as xs φ r xo h => by cases h; exact ed_xnew.m rfl
/-- d[k] = v -/
noncomputable def fXPut (w0 : World) (i : Nat) (k v : FE) : FS := fun φ => match cellOf φ i with
  | some (.dix w1 es) => match okV (k φ), okV (v φ) with
    | some kd, some vd => if w1 = w0 ∧ xKey kd = true ∧ es.length < 100000 then some (.nx (putCell φ i (.dix w0 (dxSet es kd vd)))) else none
    | _, _ => none
  | _ => none
theorem sf_xput {i : Nat} (hk : EFb K W bs ε ty A) (hv : EFb K W bs ε tv B) : SF K W bs ε (sXPut K w0 (tVar i) ty tv) (fXPut w0 i A B) := fun bo xs φ r ρ cs p h => by
  unfold fXPut at h
  split at h
  · rename_i w1 es hi
    split at h
    · rename_i kd vd h1 h2
      obtain ⟨k1, e1, f1⟩ := okV_some h1
      obtain ⟨k2, e2, f2⟩ := okV_some h2
      split at h
      · rename_i hc
        obtain ⟨rfl, g1, g2⟩ := hc
        cases h
        exact sv_pn p fun as xo => sv_xput (cell_mem hi) (cell_ev hi) ((hk bo as xs φ _ xo e1).ev f1) ((hv bo as xs φ _ xo e2).ev f2) g1 g2 (PN.put xo hi)
      · cases h
    · cases h
  · cases h
end
end Lv

/-! equations for the evaluation: dicts with nested keys -/
namespace Lv
open PySem L2
open Classical
section
variable {a b : FE} {φ : Fs} {i : Nat} {w0 : World} {es : List (D × D)} {k k2 : Kd} {x y z : D} {neg : Bool}
noncomputable def xiR (w0 : World) (neg : Bool) (k : Kd) (x y : D) : Option Rs := match y with
  | .dix w1 es => if k.fz = true ∧ w1 = w0 ∧ xKey x = true then some (.ok .pl (.bl (if neg then !(dxFind es x).isSome else (dxFind es x).isSome))) else none
  | _ => none
noncomputable def xgR (w0 : World) (x : D) (k : Kd) (y : D) : Option Rs := match x with
  | .dix w1 es => if k.fz = true ∧ w1 = w0 ∧ xKey y = true then (dxFind es y).map fun z => .ok .pl z else none
  | _ => none
noncomputable def xpR (w0 : World) (i : Nat) (φ : Fs) (o : Option D) (p q : Option Rs) : Option Br := match o with
  | some (.dix w1 es) => match okV p, okV q with
    | some kd, some vd => if w1 = w0 ∧ xKey kd = true ∧ es.length < 100000 then some (.nx (putCell φ i (.dix w0 (dxSet es kd vd)))) else none
    | _, _ => none
  | _ => none
theorem y_xin : fXIn w0 neg a b φ = rb (a φ) fun k x => rb (b φ) fun _ y => xiR w0 neg k x y := rfl
theorem y_xget : fXGet w0 a b φ = rb (a φ) fun _ x => rb (b φ) fun k y => xgR w0 x k y := rfl
theorem y_xnew : fXNew w0 φ = some (.ok .nw (.dix w0 [])) := rfl
theorem y_xput : fXPut w0 i a b φ = xpR w0 i φ (cellOf φ i) (a φ) (b φ) := by unfold fXPut xpR; rfl
theorem y_xi1 (hk : k.fz = true) (hx : xKey x = true) : xiR w0 false k x (.dix w0 es) = some (.ok .pl (.bl (dxFind es x).isSome)) := if_pos ⟨hk, rfl, hx⟩
theorem y_xi2 (hk : k.fz = true) (hx : xKey x = true) : xiR w0 true k x (.dix w0 es) = some (.ok .pl (.bl (!(dxFind es x).isSome))) := if_pos ⟨hk, rfl, hx⟩
theorem y_xg1 (hk : k.fz = true) (hx : xKey y = true) : xgR w0 (.dix w0 es) k y = (dxFind es y).map fun z => .ok .pl z := if_pos ⟨hk, rfl, hx⟩
theorem y_xp1 (h1 : k.fz = true) (h2 : k2.fz = true) (hx : xKey x = true) (hl : es.length < 100000) : xpR w0 i φ (some (.dix w0 es)) (some (.ok k x)) (some (.ok k2 y)) = some (.nx (putCell φ i (.dix w0 (dxSet es x y)))) := by
  have e1 : okV (some (.ok k x)) = some x := by cases k <;> first | rfl | cases h1
  have e2 : okV (some (.ok k2 y)) = some y := by cases k2 <;> first | rfl | cases h2
  unfold xpR
  simp only [e1, e2]
  exact if_pos ⟨trivial, hx, hl⟩
theorem y_retX : retO .ow (.dix w0 es) = some (.ret (.dix w0 es)) := rfl
theorem y_retX2 : retO .nw (.dix w0 es) = some (.ret (.dix w0 es)) := rfl
theorem dxf_nil {k : D} : dxFind [] k = none := rfl
theorem dxs_find {k k' v : D} : dxFind (dxSet es k v) k' = if k = k' then some v else dxFind es k' := by
  unfold dxSet
  cases h : dxFind es k with
  | none =>
    show dxFind (es ++ [(k, v)]) k' = _
    have key : ∀ (es : List (D × D)), dxFind es k = none → dxFind (es ++ [(k, v)]) k' = if k = k' then some v else dxFind es k' := by
      intro es
      induction es with
      | nil => intro _; rw [List.nil_append, dxf_cons]
      | cons e es ih =>
        intro h
        obtain ⟨p, q⟩ := e
        rw [dxf_cons] at h
        by_cases hp : p = k
        · rw [if_pos hp] at h; cases h
        · rw [if_neg hp] at h
          rw [List.cons_append, dxf_cons, dxf_cons, ih h]
          by_cases hk : k = k'
          · rw [if_pos hk, if_pos hk, if_neg (by rw [← hk]; exact hp)]
          · rw [if_neg hk, if_neg hk]
    exact key es h
  | some z =>
    show dxFind (es.map _) k' = _
    have key : ∀ (es : List (D × D)), dxFind (es.map fun e => if e.1 = k then (e.1, v) else e) k' = if k = k' then (dxFind es k).map (fun _ => v) else dxFind es k' := by
      intro es
      induction es with
      | nil => simp [dxf_nil]
      | cons e es ih =>
        obtain ⟨p, q⟩ := e
        rw [List.map_cons, dxf_cons, dxf_cons]
        by_cases hp : p = k
        · simp only [if_pos hp]
          rw [dxf_cons, ih, hp]
          by_cases hk : k = k'
          · simp only [if_pos hk]; rfl
          · simp only [if_neg hk]
        · simp only [if_neg hp]
          rw [dxf_cons, ih]
          by_cases hk : k = k'
          · rw [if_pos hk, if_pos hk, if_neg (by rw [← hk]; exact hp)]
          · rw [if_neg hk, if_neg hk]
    rw [key es, h]
    rfl
theorem dxs_len {k v : D} : (dxSet es k v).length ≤ es.length + 1 := by
  unfold dxSet
  split
  · rw [List.length_map]; omega
  · rw [List.length_append, List.length_singleton]; exact Nat.le_refl _
/-- many puts -/
theorem dxs_many {α : Type} {kf vf : α → D} (hi : ∀ x y, kf x = kf y → x = y) : ∀ (xs : List α) (es : List (D × D)) (x : α), dxFind (xs.foldl (fun es x => dxSet es (kf x) (vf x)) es) (kf x) = if x ∈ xs then some (vf x) else dxFind es (kf x)
  | [], es, x => by simp
  | y :: ys, es, x => by
    rw [List.foldl_cons, dxs_many hi ys, dxs_find]
    by_cases h1 : x ∈ ys
    · rw [if_pos h1, if_pos (List.mem_cons_of_mem _ h1)]
    · rw [if_neg h1]
      by_cases h2 : y = x
      · subst h2
        rw [if_pos rfl, if_pos List.mem_cons_self]
      · rw [if_neg (fun e => h2 (hi _ _ e)), if_neg (fun e => by
          rcases List.mem_cons.mp e with e | e
          · exact h2 e.symm
          · exact h1 e)]
theorem dxs_mlen {α : Type} {kf vf : α → D} : ∀ (xs : List α) (es : List (D × D)), (xs.foldl (fun es x => dxSet es (kf x) (vf x)) es).length ≤ es.length + xs.length
  | [], es => Nat.le_refl _
  | y :: ys, es => by
    rw [List.foldl_cons]
    have := dxs_mlen (kf := kf) (vf := vf) ys (dxSet es (kf y) (vf y))
    have := dxs_len (es := es) (k := kf y) (v := vf y)
    rw [List.length_cons]
    omega
end
/-- a loop whose state is told by the items that are behind it -/
theorem forGo_pre {α : Type} {enc : α → D} {gg : FG} {bd : FS} {all : List D} (st : List α → Fs) : ∀ (xs p0 : List α), (∀ p x q, p0 ++ xs = p ++ x :: q → p0.length ≤ p.length → ∃ φ1, gg (enc x) (st p) = some φ1 ∧ (bd φ1 = some (.nx (st (p ++ [x]))) ∨ bd φ1 = some (.ct (st (p ++ [x]))))) → forGo gg bd all none (xs.map enc) (st p0) = some (.nx (st (p0 ++ xs)))
  | [], p0, _ => by rw [List.append_nil]; rfl
  | x :: xs, p0, h => by
    obtain ⟨φ1, h1, h2⟩ := h p0 x xs rfl (Nat.le_refl _)
    have := forGo_pre (enc := enc) (gg := gg) (bd := bd) (all := all) st xs (p0 ++ [x]) fun p y q e hl => h p y q (by rw [← e]; simp) (by rw [List.length_append] at hl; omega)
    rw [List.append_assoc, List.singleton_append] at this
    rw [List.map_cons, forGo_cons, h1]
    rcases h2 with h2 | h2 <;> (simp only [h2]; exact this)
/-- the same, from the start -/
theorem forGo_pre0 {α : Type} {enc : α → D} {gg : FG} {bd : FS} {all : List D} (st : List α → Fs) (xs : List α) (h : ∀ p x q, xs = p ++ x :: q → ∃ φ1, gg (enc x) (st p) = some φ1 ∧ bd φ1 = some (.nx (st (p ++ [x])))) : forGo gg bd all none (xs.map enc) (st []) = some (.nx (st xs)) := by
  have := forGo_pre (enc := enc) (gg := gg) (bd := bd) (all := all) st xs [] fun p x q e _ => by
    obtain ⟨φ1, h1, h2⟩ := h p x q (by rw [← e]; rfl)
    exact ⟨φ1, h1, .inl h2⟩
  exact this
mutual
theorem eqD_self : ∀ {d : D}, plD d = true → eqD d d = true
  | .non, _ => by unfold eqD; rw [toPy, PyData.eqv]
  | .bl b, _ => by rw [eqD_bl]; exact beq_self_eq_true b
  | .int i, _ => by rw [eqD_int]; exact beq_self_eq_true i
  | .str i, _ => by rw [eqD_str]; exact beq_self_eq_true i
  | .tup ds, h => by rw [plD] at h; rw [eqD_tup]; exact eqL_self h
  | .lst ds, h => by rw [plD] at h; rw [eqD_lst]; exact eqL_self h
  | .scr _, h => by rw [plD] at h; cases h
  | .obj _ _, h => by rw [plD] at h; cases h
  | .xdc _, h => by rw [plD] at h; cases h
  | .sit _ _, h => by rw [plD] at h; cases h
  | .dik _, h => by rw [plD] at h; cases h
  | .dit _, h => by rw [plD] at h; cases h
  | .dix _ _, h => by rw [plD] at h; cases h
  | .any _, h => by rw [plD] at h; cases h
theorem eqL_self : ∀ {ds : List D}, plL ds = true → eqL ds ds = true
  | [], _ => rfl
  | d :: ds, h => by
    rw [plL, Bool.and_eq_true] at h
    rw [eqL, eqD_self h.1, eqL_self h.2]
    rfl
end
theorem n_eqS {d : D} (hc : cpd d = true) (h : ok 20 d = true) : eqF d d = some (.pl, .bl true) := by
  rw [n_eqD hc h h, eqD_self (Bool.and_eq_true_iff.mp h).1]
theorem n_neS {d : D} (hc : cpd d = true) (h : ok 20 d = true) : neF d d = some (.pl, .bl false) := by
  rw [n_neD hc h h, eqD_self (Bool.and_eq_true_iff.mp h).1]
  rfl
end Lv

/-! F: __init__ of an object with a dict in a field that is filled there -/
namespace Lv
open PySem L2
open Evl (Ex)
open Classical
abbrev FX := Fs → List (D × D) → Option (Fs × List (D × D))
/-- state: slots and the entries of the dict at p -/
def SX (K : PySem.W.Frag) (W : WX) (bs : List Addr) (ε : Xe) (w0 : World) (t : TS) (F : Addr → FX) : Prop := ∀ p bo φ es φ' es' ρ cs, PN { ε with bo := bo } bs [(p, .dix w0 es)] φ ρ cs → F p φ es = some (φ', es') → Sv K W bs t ρ cs { nx := PN { ε with bo := bo } bs [(p, .dix w0 es')] φ', rt := fun _ _ => False }
def xLift (M : FS) : Addr → FX := fun _ φ es => match M φ with
  | some (.nx φ') => some (φ', es)
  | _ => none
def xSeq (a b : Addr → FX) : Addr → FX := fun p φ es => match a p φ es with
  | some q => b p q.1 q.2
  | none => none
def xGo (g : FG) (b : FX) : List D → FX
  | [], φ, es => some (φ, es)
  | d :: ds, φ, es => match g d φ with
    | none => none
    | some φ1 => match b φ1 es with
      | some q => xGo g b ds q.1 q.2
      | none => none
def xFor (I : FI) (g : FG) (b : Addr → FX) : Addr → FX := fun p φ es => match I φ with
  | some (.ok ds none) => xGo g (b p) ds φ es
  | _ => none
def xWipe (vs : List Nat) (b : Addr → FX) : Addr → FX := fun p φ es => match b p φ es with
  | some q => some (wipeS q.1 vs, q.2)
  | none => none
def isR (p : Addr) : Option Rs → Bool
  | some (.ok .pl (.any (.ref q))) => decide (q = p)
  | _ => false
noncomputable def xPut (w0 : World) (a k v : FE) : Addr → FX := fun p φ es => match okV (k φ), okV (v φ) with
  | some kd, some vd => if isR p (a φ) = true ∧ xKey kd = true ∧ es.length < 100000 then some (φ, dxSet es kd vd) else none
  | _, _ => none
section
variable {K : PySem.W.Frag} {G G0 G1 G2 G3 H H0 H1 H2 H3 : Hp} {ρ ρ1 : Ro} {cs cs' xs : Cs} {ta tb te tx td ty tv : TE} {tt tu : TT} {d d' e x y z : D} {W : WX} {bs : List Addr} {ε : Xe} {t u : TS} {A B C E : FE} {tr : TA} {T : FA} {as : Nat → Addr} {φ φ' φ1 φ2 : Fs} {F M N : FS} {P : Po} {w0 : World} {b b2 : Addr → FX}
theorem sx_lift (h : SF K W bs ε t M) : SX K W bs ε w0 t (xLift M) := fun p bo φ es φ' es' ρ cs pn hr => by
  unfold xLift at hr
  split at hr
  · rename_i φ2 e
    cases hr
    exact h bo _ φ _ ρ cs pn e
  · cases hr
theorem sx_seq (h1 : SX K W bs ε w0 t b) (h2 : SX K W bs ε w0 u b2) : SX K W bs ε w0 (tSeq t u) (xSeq b b2) := fun p bo φ es φ' es' ρ cs pn hr => by
  unfold xSeq at hr
  split at hr
  · rename_i q e
    exact sv_seq ((h1 p bo φ es q.1 q.2 ρ cs pn e).mono ⟨fun ρ cs k => h2 p bo q.1 q.2 φ' es' ρ cs k hr, fun _ _ k => k.elim, fun _ _ k => k.elim, fun _ _ k => k.elim, fun _ _ _ _ k => k.elim⟩)
  · cases hr
theorem sx_wipe {vs : List Nat} (h : SX K W bs ε w0 t b) : SX K W bs ε w0 t (xWipe vs b) := fun p bo φ es φ' es' ρ cs pn hr => by
  unfold xWipe at hr
  split at hr
  · rename_i q e
    cases hr
    exact (h p bo φ es q.1 q.2 ρ cs pn e).mono ⟨fun _ _ k => k.wipe, fun _ _ k => k.elim, fun _ _ k => k.elim, fun _ _ k => k.elim, fun _ _ _ _ k => k.elim⟩
  · cases hr
theorem sx_for {wi : TI} {g : TG} {I : FI} {Fg : FG} {js : List Nat} (hi : IF K W bs ε wi I) (hg : GF K g Fg js) (hb : SX K W bs ε w0 t b) : SX K W bs ε w0 (tFor wi g t) (xFor I Fg b) := fun p bo φ es φ' es' ρ cs pn hr => by
  unfold xFor at hr
  split at hr
  · rename_i ds e
    refine sv_pn pn fun as xo => ?_
    rcases hi bo as _ φ _ xo e with ⟨_, hi⟩ | ⟨j, hj, _, _⟩
    · refine sv_for hi (fun k ρ' cs' => ∃ φk ek, PN { ε with bo := bo } bs [(p, .dix w0 ek)] φk ρ' cs' ∧ xGo Fg (b p) (ds.drop k) φk ek = some (φ', es')) ⟨φ, es, .mk xo, by simpa using hr⟩ ?_ ?_ ?_
      · intro k ρ' cs' _ c hc
        cases hc
      · rintro k d ρ' cs' hd ⟨φk, ek, ⟨as, xo, l, m⟩, hgo⟩
        have hdr : ds.drop k = d :: ds.drop (k + 1) := by
          obtain ⟨hl, e⟩ := List.getElem?_eq_some_iff.mp hd
          rw [List.drop_eq_getElem_cons hl, e]
        rw [hdr, xGo] at hgo
        split at hgo
        · cases hgo
        · rename_i φ1 e1
          obtain ⟨a1, a2, a3, a4⟩ := hg _ _ _ e1
          have p1 : PN { ε with bo := bo } bs [(p, .dix w0 ek)] φ1 (roOf as 0 φ1) cs' := ⟨as, xo.sh a1, le.refl _, fun c hc => m c (by
            rcases List.mem_append.mp hc with hc | hc
            · exact List.mem_append_left _ (a1.csm hc)
            · exact List.mem_append_right _ hc)⟩
          refine ⟨_, js, (a4 as).le l, ?_⟩
          split at hgo
          · rename_i q e2
            exact (hb p bo φ1 ek q.1 q.2 _ _ p1 e2).mono ⟨fun _ _ k => ⟨q.1, q.2, k, hgo⟩, fun _ _ k => k.elim, fun _ _ k => k.elim, fun _ _ k => k.elim, fun _ _ _ _ k => k.elim⟩
          · cases hgo
      · rintro ρ' cs' ⟨φk, ek, p, hgo⟩
        rw [List.drop_length, xGo] at hgo
        cases hgo
        exact p
    · cases hj
  · cases hr
theorem isR_some {p : Addr} {r : Option Rs} (h : isR p r = true) : r = some (.ok .pl (.any (.ref p))) := by
  unfold isR at h
  split at h
  · rw [of_decide_eq_true h]
  · cases h
theorem sx_put (ha : EFb K W bs ε td A) (hk : EFb K W bs ε ty B) (hv : EFb K W bs ε tv C) : SX K W bs ε w0 (sXPut K w0 td ty tv) (xPut w0 A B C) := fun p bo φ es φ' es' ρ cs pn hr => by
  unfold xPut at hr
  split at hr
  · rename_i kd vd h1 h2
    obtain ⟨k1, e1, f1⟩ := okV_some h1
    obtain ⟨k2, e2, f2⟩ := okV_some h2
    split at hr
    · rename_i hc
      obtain ⟨g0, g1, g2⟩ := hc
      cases hr
      refine sv_pn pn fun as xo => ?_
      have hp : (p, D.dix w0 es) ∈ csOf as 0 φ ++ [(p, D.dix w0 es)] := List.mem_append_right _ (List.mem_singleton.mpr rfl)
      refine sv_xput (a := p) hp ((ha bo as _ φ _ xo (isR_some g0)).ev rfl) ((hk bo as _ φ _ xo e1).ev f1) ((hv bo as _ φ _ xo e2).ev f2) g1 g2 ?_
      have hdj : ∀ c ∈ csOf as 0 φ, c.1 ≠ p := fun c hc z => by
        obtain ⟨i, d, hd, rfl⟩ := mem_csOf.mp hc
        rw [Nat.zero_add] at z
        rcases hd with hd | hd
        · exact xo.dj i _ hd rfl (p, D.dix w0 es) (List.mem_singleton.mpr rfl) z.symm
        · exact xo.dj i _ hd rfl (p, D.dix w0 es) (List.mem_singleton.mpr rfl) z.symm
      refine ⟨as, ⟨xo.inj, fun i s h1 h2 c hc => ?_, by simp, xo.ow, xo.bw, fun i c f h1 => ?_⟩, le.refl _, fun c hc => ?_⟩
      · rw [List.mem_singleton.mp hc]
        exact xo.dj i s h1 h2 (p, D.dix w0 es) (List.mem_singleton.mpr rfl)
      · obtain ⟨z1, z2, z3, z4⟩ := xo.xc i c f h1
        refine ⟨z1, z2, z3, fun fs hfs => ?_⟩
        obtain ⟨q, y1, y2⟩ := z4 fs hfs
        have := List.mem_singleton.mp y2
        cases this
      · rcases List.mem_append.mp hc with hc | hc
        · exact setC_keep (List.mem_append_left _ hc) (hdj c hc)
        · rw [List.mem_singleton.mp hc]
          exact setC_mem hp
    · cases hr
  · cases hr
/-! ### the whole __init__ -/
theorem sv_fldD {a C : Addr} {f : Str} {fs : List (Str × D)} (hc : (a, .obj C fs) ∈ cs) (h : EvD K te ρ cs d) (ho : Ev K ta ρ cs (.any (.ref a))) (c : Cls K C) (na : NoAttr K C f) (hl : fs.length < 1000) (k : ∀ p, p ∉ bs → (∀ c ∈ cs, c.1 ≠ p) → P.nx ρ (setC a (.obj C (putD f (.any (.ref p)) fs)) ((p, d) :: cs))) :
    Sv K W bs (sFld K ta te f) ρ cs P := fun G0 H0 G H σ E r e o => h G H σ r.wl e _ fun p G2 H2 n hp gp hcd => by
  obtain ⟨a1, a2, a3⟩ := r.none0 hp
  have r2 := (r.step n).newCellD a1 gp hcd a3
  refine ho G2 H2 σ (r.step n).wl (e.mono n.g) _ fun u G3 H3 n3 ru => ?_
  cases ru
  have r3 := r2.step n3
  obtain ⟨_, dx, vs, hu, rf⟩ := r3.wl.cell _ (List.mem_cons_of_mem _ hc)
  refine ⟨a, C, dx, vs, rfl, hu, c, na, by rw [rf.length]; exact hl, ?_⟩
  refine o.nx G3 _ σ ρ _ (r3.write (d' := .obj C (putD f (.any (.ref p)) fs)) (List.mem_cons_of_mem _ hc) ⟨dx, putF f (.ref p) vs, upd_same, ?_⟩) ((e.mono n.g).mono n3.g) (k p a2 a3)
  exact rf.put (.any _)
theorem repF_last {v : V} {f : Str} (rv : Rep K G v d) : ∀ {fs : List (Str × D)} {vs : List (Str × V)}, RepF K G vs (fs ++ [(f, .any v)]) → RepF K G vs (fs ++ [(f, d)])
  | [], vs, h => by
    cases h with
    | cons h1 h2 =>
      cases h2
      cases h1
      exact .cons rv .nil
  | (g, x) :: fs, vs, h => by
    cases h with
    | cons h1 h2 => exact .cons h1 (repF_last rv h2)
/-- at the end the dict is pure -/
theorem sv_finX {a C p : Addr} {f : Str} {fs : List (Str × D)} {es : List (D × D)} {bo : Nat → Addr} (hbo : bo 0 = a) (hp : p ≠ a) (h0 : φ[0]? = some (.bw (.obj C (fs ++ [(f, .any (.ref p))])))) (h : Sv K W [a] t ρ cs { nx := PN { ε with bo := bo } [a] [(p, .dix w0 es)] φ, rt := fun _ _ => False }) : Sv K W [a] t ρ cs (poI C a (.ret (.obj C (fs ++ [(f, .dix w0 es)])))) := fun G0 H0 G H σ E r e o => by
  refine h G0 H0 G H σ E r e ⟨fun G H σ ρ cs r e k => ?_, fun _ _ _ _ _ _ _ k => k.elim, fun _ _ _ _ _ _ _ k => k.elim, fun _ _ _ _ _ _ _ k => k.elim, fun _ _ _ _ _ _ _ _ _ _ _ _ k => k.elim⟩
  obtain ⟨as, xo, l, m⟩ := k
  have hobj : (a, D.obj C (fs ++ [(f, .any (.ref p))])) ∈ cs := by
    have := m _ (xo.bwm 0 _ h0)
    rw [show ({ ε with bo := bo } : Xe).bo 0 = a from hbo] at this
    exact this
  have hdx : (p, D.dix w0 es) ∈ cs := m _ (List.mem_append_right _ (List.mem_singleton.mpr rfl))
  obtain ⟨G', r', e'⟩ := r.floor.freeze (σ := [some (.ref p)]) (ρ := [some (.any (.ref p))]) (ρ1 := [some (.dix w0 es)]) ⟨rfl, fun i x hx => by
    cases i with
    | zero => cases hx; exact ⟨_, rfl, .any _⟩
    | succ i => simp at hx⟩ hdx (by simpa using hp) ⟨.inr ⟨rfl, rfl⟩, trivial⟩ rfl
  have rp : Rep K G' (.ref p) (.dix w0 es) := by
    obtain ⟨v, h1, h2⟩ := e'.at_ 0 _ rfl
    cases h1
    exact h2
  have r2 := r.back r'
  have hmem : (a, D.obj C (fs ++ [(f, .any (.ref p))])) ∈ delC p cs := List.mem_filter.mpr ⟨hobj, decide_eq_true (Ne.symm hp)⟩
  obtain ⟨g1, dx, vs, hv, rf⟩ := r2.wl.cell _ hmem
  have r3 : Rl K G0 H0 [a] G' H [(a, D.obj C (fs ++ [(f, .dix w0 es)]))] := ⟨⟨r2.wl.sub, fun c hc => by
    rw [List.mem_singleton.mp hc]
    exact ⟨g1, dx, vs, hv, repF_last rp rf⟩, by simp⟩, r2.g0, r2.h0, r2.nw, fun c hc => by
    rw [List.mem_singleton.mp hc]
    exact .inl (List.mem_singleton.mpr rfl), r2.bd, r2.b0⟩
  exact o.nx G' H σ ρ _ r3 (e.mono r'.g0) ⟨rfl, List.mem_singleton.mpr rfl⟩
/-- what is left of an __init__ -/
def SI (K : PySem.W.Frag) (W : WX) (ε : Xe) (C a : Addr) (t : TS) (F : Fs → Option Out) : Prop := ∀ φ o ρ cs, PN { ε with bo := fun _ => a } [a] [] φ ρ cs → F φ = some o → Sv K W [a] t ρ cs (poI C a o)
def iSeqX (m : FS) (n : Fs → Option Out) : Fs → Option Out := fun φ => match m φ with
  | some (.nx φ') => n φ'
  | _ => none
theorem si_seq {C a : Addr} {n : Fs → Option Out} (h1 : SF K W [a] ε t M) (h2 : SI K W ε C a u n) : SI K W ε C a (tSeq t u) (iSeqX M n) := fun φ o ρ cs pn hr => by
  unfold iSeqX at hr
  split at hr
  · rename_i φ' e
    exact sv_seq ((h1 (fun _ => a) [] φ _ ρ cs pn e).mono ⟨fun ρ cs k => h2 φ' o ρ cs k hr, fun _ _ k => k.elim, fun _ _ k => k.elim, fun _ _ k => k.elim, fun _ _ _ _ k => k.elim⟩)
  · cases hr
structure NewA (K : PySem.W.Frag) (C : Addr) (w0 : World) (f : Str) (b : Addr → FX) (φ : Fs) (o : Out) : Prop where
  ex : ∃ fs es fs3, φ[0]? = some (.bw (.obj C fs)) ∧ Cls K C ∧ NoAttr K C f ∧ fs.length < 1000 ∧ (∀ p, ∃ φ3, b p (φ.set 0 (.bw (.obj C (putD f (.any (.ref p)) fs)))) [] = some (φ3, es) ∧ φ3[0]? = some (.bw (.obj C (fs3 ++ [(f, .any (.ref p))])))) ∧ o = .ret (.obj C (fs3 ++ [(f, .dix w0 es)]))
theorem NewA.det {C : Addr} {f : Str} {o o' : Out} (h : NewA K C w0 f b φ o) (h' : NewA K C w0 f b φ o') : o = o' := by
  obtain ⟨fs, es, fs3, a1, _, _, _, a2, rfl⟩ := h.ex
  obtain ⟨fs', es', fs3', b1, _, _, _, b2, rfl⟩ := h'.ex
  rw [a1] at b1
  cases b1
  obtain ⟨φ3, c1, c2⟩ := a2 0
  obtain ⟨φ3', d1, d2⟩ := b2 0
  rw [c1] at d1
  cases d1
  rw [c2] at d2
  have : fs3 ++ [(f, D.any (.ref 0))] = fs3' ++ [(f, D.any (.ref 0))] := by injection d2 with d2; injection d2 with d2; injection d2
  rw [List.append_cancel_right this]
noncomputable def iNew (K : PySem.W.Frag) (C : Addr) (w0 : World) (f : Str) (b : Addr → FX) : Fs → Option Out := fun φ => if h : ∃ o, NewA K C w0 f b φ o then some h.choose else none
theorem iNew_eq {C : Addr} {f : Str} {o : Out} (h : NewA K C w0 f b φ o) : iNew K C w0 f b φ = some o := by
  have hx : ∃ o, NewA K C w0 f b φ o := ⟨o, h⟩
  unfold iNew
  rw [dif_pos hx, hx.choose_spec.det h]
theorem si_new {C a : Addr} {f : Str} (h2 : SX K W [a] ε w0 u b) : SI K W ε C a (tSeq (sFld K (tVar 0) (tXNew w0) f) u) (iNew K C w0 f b) := fun φ o ρ cs pn hr => by
  unfold iNew at hr
  split at hr
  · rename_i hx
    have hA := hx.choose_spec
    have ho : hx.choose = o := by injection hr
    rw [ho] at hA
    obtain ⟨fs, es, fs3, a1, a2, a3, a4, a5, rfl⟩ := hA.ex
    refine sv_seq (sv_pn pn fun as xo => ?_)
    have hco : cellOf φ 0 = some (.obj C fs) := by unfold cellOf; rw [a1]
    refine sv_fldD (cell_mem hco) ed_xnew (cell_ev hco) a2 a3 a4 fun p hp hne => ?_
    obtain ⟨φ3, b1, b2⟩ := a5 p
    have hdj : ∀ (i : Nat) (s : Sl), φ[i]? = some s → s.isC = true → ∀ c ∈ [(p, D.dix w0 [])], c.1 ≠ as i := fun i s h1 h2 c hc => by
      rw [List.mem_singleton.mp hc]
      intro z
      cases s with
      | ow d => exact hne (as i, d) (List.mem_append_left _ (mem_csOf.mpr ⟨i, d, .inl h1, by simp⟩)) z.symm
      | bw d => exact hne (as i, d) (List.mem_append_left _ (mem_csOf.mpr ⟨i, d, .inr h1, by simp⟩)) z.symm
      | _ => cases h2
    have xo2 : XO { ε with bo := fun _ => a } [a] as φ [(p, D.dix w0 [])] := by
      refine ⟨xo.inj, hdj, by simp, xo.ow, xo.bw, fun i c f h1 => ?_⟩
      obtain ⟨z1, z2, z3, z4⟩ := xo.xc i c f h1
      refine ⟨z1, z2, z3, fun fs hfs => ?_⟩
      obtain ⟨q, y1, y2⟩ := z4 fs hfs
      cases y2
    have hp0 := PN.put (d' := .obj C (putD f (.any (.ref p)) fs)) xo2 hco
    have hput : putCell φ 0 (.obj C (putD f (.any (.ref p)) fs)) = φ.set 0 (.bw (.obj C (putD f (.any (.ref p)) fs))) := by unfold putCell; rw [a1]
    rw [hput] at hp0
    have hp1 : PN { ε with bo := fun _ => a } [a] [(p, D.dix w0 [])] (φ.set 0 (.bw (.obj C (putD f (.any (.ref p)) fs)))) (roOf as 0 φ) (setC (as 0) (.obj C (putD f (.any (.ref p)) fs)) ((p, D.dix w0 []) :: (csOf as 0 φ ++ []))) := by
      obtain ⟨as2, x2, l2, m2⟩ := hp0
      refine ⟨as2, x2, l2, fun c hc => ?_⟩
      have hc2 := m2 c hc
      rcases mem_setC xo2.nd hc2 with rfl | ⟨z1, z2⟩
      · exact setC_mem (d := .obj C fs) (List.mem_cons_of_mem _ (cell_mem hco))
      · refine setC_keep ?_ z2
        rcases List.mem_append.mp z1 with z1 | z1
        · exact List.mem_cons_of_mem _ (List.mem_append_left _ z1)
        · rw [List.mem_singleton.mp z1]
          exact List.mem_cons_self
    exact sv_finX (bo := fun _ => a) rfl (fun z => hp (by rw [z]; exact List.mem_singleton.mpr rfl)) b2 (h2 p (fun _ => a) _ [] φ3 es _ _ hp1 b1)
  · cases hr
end
end Lv

/-! dict comprehensions whose keys are tuples of any depth -/
namespace Lv
open PySem L2 PyProof.Rows PySem.Spec
open Classical
section
variable {X : Cx}
theorem dx_set {pins : List (Addr × Obj)} {σ : L2.St} {H : Hp} {s : Shared} {E : Value → Shared → Prop} {a b : Addr} {xs : List (NestedKey × Addr × Value)} {k : NestedKey} {r : Value} {Q : Unit → Shared → Prop} (hu : X.A.units + 8 < cLine) (I : L2.Inv X pins σ H s) (g : DxAt X.K X.w H a b xs k) (hz : xs.length < sizeLine)
    (h : ∀ s', L2.Inv X pins σ (upd H a (.ext (dxP a X.w (storedH xs k b r)))) s' → Q () s') : wpAny (model X.prog X.w) X.A (dictSet a (.ref b) r) Q E s := by
  obtain ⟨m1, m2, m3, m4⟩ := dx_of I g
  refine wpAny_dictSet_heap (hsz := m4) hu m2 m1 fun h' hm' hs' => h _ ?_
  obtain ⟨o', es', ep', ho', hx', hd', he', hi', hn'⟩ := hm'
  refine I.write (x := a) (e := a) (t' := _) (by rw [g.1]; trivial) (.inl rfl) (fun b' u' hb' e' => (hs'.2 b' hb').trans e') ⟨o', ho'⟩ ?_
  have hst : ∀ h1 h2 : Heap, dxP a X.w (storedH xs k b r) h1 → (∀ o, h1.get? a = some o → h2.get? a = some o) → dxP a X.w (storedH xs k b r) h2 := fun h1 h2 ⟨z1, z2, z3, z4, o, es, ep, zo, zr⟩ hh => ⟨z1, z2, z3, z4, o, es, ep, hh _ zo, zr⟩
  refine ⟨⟨m3, ?_, hn', fun x hx => (hi' x hx).2, o', es', ep', ho', hx', hd', he'⟩, ⟨o', ho'⟩, hst⟩
  have : (storedH xs k b r).length ≤ xs.length + 1 := by
    unfold storedH
    split
    · rw [List.length_map]; omega
    · rw [List.length_append, List.length_singleton]; exact Nat.le_refl _
  omega
/-- {k: v for target in iter if ..}, keys tuples: the new dict at p -/
def tDcX (K : PySem.W.Frag) (w : World) (wi : TI) (g : TG) (tt : TT) (tk tv : TE) (vs : List Nat) : TE := fun σ H Q => wi σ H fun J H1 => ∀ p, H1 p = none → ∃ W : Nat → Nat → Hp → Prop, (∃ m, W 0 m (upd H1 p (.ext (dxP p w [])))) ∧ ∀ i m H, W i m H →
  (J.stop i H ∧ Q (.ref p) H) ∨ (J.go i H ∧ ∃ Nx : Hp → Prop, (∀ H', Nx H' → ∃ m', m' < m ∧ W (i + 1) m' H') ∧ ∀ x H', J.yld i H x H' → g x (wipe σ vs) H' fun σ2 H2 => wipe σ2 vs = wipe σ vs ∧ tt σ2 H2 fun b H3 =>
    if b = true then tk σ2 H3 fun y H4 => tv σ2 H4 fun z H5 => ∃ q xs k, y = .ref q ∧ DxAt K w H5 p q xs k ∧ xs.length < sizeLine ∧ ∀ u, RelV z u → Nx (upd H5 p (.ext (dxP p w (storedH xs k q u)))) else Nx H3)
theorem pe_dcX (K : PySem.W.Frag) (w : World) (hu : X.A.units + 64 < cLine) {kx vx tg iter : Expr} {ifs : List Expr} {scope : Scope} {own : List (Str × Nat)} {pos : Pos} {wi : TI} {g : TG} {tt : TT} {tk tv : TE} (hc : X.calm = true) (hN : X.N.Nodup) (hi : PI X tg iter wi) (ok : BlkOk X.N X.env.scope scope own)
    (hg : ∀ (s : Shared) (H : Hp) (C : Addr) (cl : List (Str × Addr)) (fp : List Addr), PG (X.blk s H scope (compEnvC scope cl C X.env) fp) tg g) (ht : ∀ (s : Shared) (H : Hp) (C : Addr) (cl : List (Str × Addr)) (fp : List Addr), PTs (X.blk s H scope (compEnvC scope cl C X.env) fp) ifs tt)
    (hk : ∀ (s : Shared) (H : Hp) (C : Addr) (cl : List (Str × Addr)) (fp : List Addr), PE (X.blk s H scope (compEnvC scope cl C X.env) fp) kx tk)
    (he : ∀ (s : Shared) (H : Hp) (C : Addr) (cl : List (Str × Addr)) (fp : List Addr), PE (X.blk s H scope (compEnvC scope cl C X.env) fp) vx tv) (hK : X.K = K := by rfl) (hw : X.w = w := by rfl) (hs : ∀ x, foldedSetIterable iter X.env x = pure x := by intro _; rfl) :
    PE X (.DictComp kx vx [⟨tg, iter, ifs, 0⟩] scope pos) (tDcX K w wi g tt tk tv (own.map (·.2))) := by
  subst hK
  subst hw
  refine ⟨fun pins s σ H Q I h => ?_⟩
  rw [arm_eval_DictComp]
  have hfree : ∀ y ∈ scope.names, y.2 = .free → ∃ c, X.env.cells.lookup y.1 = some c := fun y hy e => (ok.free y hy e).elim (fun k => I.ok.has _ (.inl k)) fun k => I.ok.has _ (.inr k)
  refine wpAny_comprehension_free rfl hs (closure_ok hfree) ok.kind (fun y hy e => by rw [ok.uniq y hy, e]) (thn (hi.run pins s σ H _ I h) fun xv s1 hx => thn hx fun itv s2 h2 => ?_)
  obtain ⟨it, fp, tn, J, H2, e, I2, T, st2, f2, q⟩ := h2
  subst e
  refine wpAny_newObj_type (newEnv_comp ?_)
  generalize hD : s2.heap.objs.size = D
  have hDn : H2 D = none := I2.hok.fresh (Nat.le_of_eq hD)
  obtain ⟨W, ⟨m0, w0⟩, turn⟩ := q D hDn
  generalize hs3 : ({ s2 with heap := s2.heap.push { cls := .type "dict", data := .dict #[] } } : Shared) = s3
  have I3 : L2.Inv X pins σ (upd H2 D (.ext (dxP D X.w []))) s3 := by
    rw [← hs3]
    refine I2.laid (t' := s2.toks) (fun b o e => Heap.get?_push_of_some _ e) (Nat.le_of_eq hD) ?_
    rw [← hD]
    exact ⟨⟨beq_eq_false_iff_ne.mpr (Ne.symm (Nat.ne_of_lt I2.big)), Nat.zero_le _, List.nodup_nil, by simp, _, #[], 0, Heap.get?_push_size _ rfl, ⟨rfl, rfl, rfl⟩, rfl, rfl⟩, ⟨_, Heap.get?_push_size _ rfl⟩, fun h1 h2 ⟨z1, z2, z3, z4, o, es, ep, zo, zr⟩ hh => ⟨z1, z2, z3, z4, o, es, ep, hh _ zo, zr⟩⟩
  have h3 : s3.heap = s2.heap.push { cls := .type "dict", data := .dict #[] } := by rw [← hs3]
  have f3 : ∀ b ∈ fp, FpOk X pins (upd H2 D (.ext (dxP D X.w []))) b ∧ b < s3.heap.objs.size := fun b hb => by
    obtain ⟨o, e, _⟩ := T.obj _ _ st2 b hb
    have hlt : b < s2.heap.objs.size := Heap.lt_size e
    refine ⟨⟨?_, (f2 b hb).2⟩, by rw [h3, Heap.size_push]; exact Nat.lt_succ_of_lt hlt⟩
    rw [L2.upd_ne (by rw [← hD]; exact Nat.ne_of_lt hlt)]
    exact (f2 b hb).1
  have st3 : tn 0 s3.heap := T.keep _ _ _ st2 fun b _ o e => by rw [h3]; exact Heap.get?_push_of_some _ e
  have I4 := block_start I3 ok hN f3
  generalize hcl : cellsFrom (s3.heap.objs.size + 1) scope.names (cloFrom X.env.cells scope.names []) = cl at I4
  have pg := hg s3 (upd H2 D (.ext (dxP D X.w []))) s3.heap.objs.size cl fp
  have pt := ht s3 (upd H2 D (.ext (dxP D X.w []))) s3.heap.objs.size cl fp
  have pk := hk s3 (upd H2 D (.ext (dxP D X.w []))) s3.heap.objs.size cl fp
  have pe := he s3 (upd H2 D (.ext (dxP D X.w []))) s3.heap.objs.size cl fp
  show codeAny _ _ (.compStart (.DictComp kx vx [⟨tg, iter, ifs, 0⟩] scope pos) 0 (.ref it) (.ref D) (compEnvC scope cl s3.heap.objs.size X.env)) (compPost (model X.prog X.w) X.A X.xe _ _ (.ref D) s3.heap.objs.size) { s3 with heap := pushCells (s3.heap.push { cls := .type "dict", data := .dict #[] }) scope.names }
  have nfp : ∀ b ∈ fp, (upd H2 D (.ext (dxP D X.w []))) b = none := fun b hb => (f3 b hb).1.1
  generalize hce : compEnvC scope cl s3.heap.objs.size X.env = ce at I4 pg pt pk pe ⊢
  have cL : ce.locals = s3.heap.objs.size := by subst hce; rfl
  generalize hH3 : upd H2 D (.ext (dxP D X.w [])) = H3 at I3 I4 pg pt pk pe w0 nfp f3
  generalize hs4 : ({ s3 with heap := pushCells (s3.heap.push { cls := .type "dict", data := .dict #[] }) scope.names } : Shared) = s4 at I4 ⊢
  have st4 : tn 0 s4.heap := T.keep _ _ _ st3 fun b _ o e => by rw [← hs4]; exact pushCells_keeps _ _ _ _ (Heap.get?_push_of_some _ e)
  have stat : ∀ {σ' : L2.St} {H' : Hp} {s' : Shared}, L2.Inv (X.blk s3 H3 scope ce fp) [] σ' H' s' → (∀ b ∈ fp, H' b = none) → ∀ b ∈ fp, FpOk (X.blk s3 H3 scope ce fp) [] H' b := fun {σ' H' s'} I' hn b hb =>
    ⟨hn b hb, (I'.ok.exf b hb).1, I'.ok.exfs b hb, .inl hb, fun x c e => (I'.ok.exf b hb).2 x c e, fun p hp => absurd (show p ∈ ([] : List (Addr × Obj)) ++ [] from hp) (by simp)⟩
  refine (fun loop => codeAny_compStart_dict loop (T.self X.A 0 _ _ _ st4 loop)) ?_
  refine compLoop_anyD (fun n s' => ∃ i H', L2.Inv (X.blk s3 H3 scope ce fp) [] (wipe σ (own.map (·.2))) H' s' ∧ tn i s'.heap ∧ (∀ b ∈ fp, H' b = none) ∧ W i n H') ?_ m0 ⟨0, H3, I4, st4, nfp, w0⟩
  rintro n s5 ⟨i, H5, I5, st5, n5, w5⟩
  rcases turn i n H5 w5 with ⟨stop, qq⟩ | ⟨go, Nx, hNx, step⟩
  · refine thnF (T.done (X.blk s3 H3 scope ce fp) rfl rfl rfl hc i [] s5 _ H5 (fun _ _ => False) I5 (stat I5 n5) st5 stop) fun r s6 ⟨hr, I6⟩ => ?_
    subst hr
    have I7 : L2.Inv X pins σ H5 s6 := I3.call' (ch := fp) I6.os I6.base I6.hok I6.bare fun b hb => ⟨(f3 b hb).1.2.2.2.1, (f3 b hb).1.2.1, (f3 b hb).1.2.2.2.2.1, (f3 b hb).1.2.2.2.2.2⟩
    have nC : H5 s3.heap.objs.size = none := by rw [← cL]; exact I6.free
    obtain ⟨m, hn, _⟩ := I6.loc
    have hn : s6.heap.Ns ce.locals m := hn
    rw [cL] at hn
    refine ⟨m, hn, fun h'' sb => ?_⟩
    obtain ⟨y0, y1, y2, y3, y4, y5⟩ := I3.fpOk (Nat.le_refl _) nC
    exact ⟨.ref D, H5, I7.turned (t' := s6.toks) (fun b o hb e => (sb.2 b hb).trans e) y0 y1 y3 y4 y5, rfl, qq⟩
  · refine thnF (T.item (X.blk s3 H3 scope ce fp) rfl rfl rfl hc i [] s5 _ H5 (fun _ _ => False) I5 (stat I5 n5) st5 go) fun r s6 ⟨u, hr, h6⟩ => ?_
    subst hr
    refine thnF h6 fun _ s7 ⟨x, H7, I7, r7, y7, st7, n7⟩ => ?_
    refine thnF (pg.run _ s7 _ H7 x u _ (I7.pinned (stat I7 n7) (T.obj _ _ st7)) r7 (step x H7 y7)) fun _ s8 ⟨σ8, H8, I8, hw8, q8⟩ => ?_
    refine thnF (pt.run _ s8 σ8 H8 _ I8 q8) fun b s9 ⟨H9, I9, q9⟩ => ?_
    have fin : ∀ {s' : Shared} {H' : Hp}, L2.Inv (X.blk s3 H3 scope ce fp) ([] ++ pinsAt fp s7.heap) σ8 H' s' → Nx H' → ∃ m, m < n ∧ ∃ i H', L2.Inv (X.blk s3 H3 scope ce fp) [] (wipe σ (own.map (·.2))) H' s' ∧ tn i s'.heap ∧ (∀ b ∈ fp, H' b = none) ∧ W i m H' := fun {s' H'} I' nx => by
      obtain ⟨m', hm, w'⟩ := hNx H' nx
      have pin' : ∀ b ∈ fp, ∀ o, s7.heap.get? b = some o → s'.heap.get? b = some o ∧ H' b = none := fun b hb o e =>
        let z := I'.pin (b, o) (List.mem_append_right _ (List.mem_append_right _ (mem_pinsAt hb e)))
        ⟨z.1, z.2.1⟩
      refine ⟨m', hm, i + 1, H', (I'.unpinned (pins := [])).weak (by rw [← hw8, wipe_length]) (fun j v e => by rw [← hw8] at e; exact (wipe_some e).1), T.keep _ _ _ st7 fun b hb o e => (pin' b hb o e).1, fun b hb => ?_, w'⟩
      obtain ⟨o, e, _⟩ := T.obj _ _ st7 b hb
      exact (pin' b hb o e).2
    cases b with
    | false =>
      simp only [Bool.false_eq_true, if_false] at q9 ⊢
      exact fin I9 q9
    | true =>
      simp only [if_true] at q9 ⊢
      refine thnF (pk.run _ s9 σ8 H9 _ I9 q9) fun z s10 ⟨yk, H10, I10, r10, q10⟩ => ?_
      refine thnF (pe.run _ s10 σ8 H10 _ I10 q10) fun z2 s11 ⟨yv, H11, I11, r11, qa, xs, k, ek, hg11, hz11, nx⟩ => ?_
      subst ek
      cases r10
      exact dx_set (X := X.blk s3 H3 scope ce fp) (Nat.lt_of_le_of_lt (Nat.add_le_add_left (by decide) _) hu) I11 hg11 hz11 fun s12 I12 => fin I12 (nx _ r11)
end
end Lv

/-! F: dict comprehensions whose keys are tuples -/
namespace Lv
open PySem L2
open Evl (Ex)
open Classical
noncomputable def dcS (o : D → Option (D × D)) (es : List (D × D)) (d : D) : List (D × D) := match o d with
  | some kv => dxSet es kv.1 kv.2
  | none => es
theorem dcS_len {o : D → Option (D × D)} : ∀ (ds : List D) (es : List (D × D)), (ds.foldl (dcS o) es).length ≤ es.length + ds.length
  | [], es => Nat.le_refl _
  | d :: ds, es => by
    rw [List.foldl_cons]
    have h1 := dcS_len (o := o) ds (dcS o es d)
    have h2 : (dcS o es d).length ≤ es.length + 1 := by
      unfold dcS
      split
      · exact dxs_len
      · omega
    rw [List.length_cons]
    omega
section
variable {K : PySem.W.Frag} {G G0 G1 G2 G3 H H0 H1 H2 H3 : Hp} {ρ ρ1 : Ro} {cs cs' xs : Cs} {ta tb te tx td ty tk tv : TE} {tt tu : TT} {d d' e x y z : D} {W : WX} {bs : List Addr} {ε : Xe} {t u : TS} {A B C E : FE} {tr : TA} {T : FA} {as : Nat → Addr} {φ φ' φ1 φ2 : Fs} {F M N : FS} {P : Po} {w0 : World}
def DcI (K : PySem.W.Frag) (w0 : World) (G1 H1 : Hp) (p : Addr) (es : List (D × D)) (Hc : Hp) : Prop := ∃ Gc xs, Nx G1 H1 Gc Hc ∧ Gc p = none ∧ Hc p = some (.ext (dxP p w0 xs)) ∧ DxR K Gc xs es
theorem ed_dcX {ds : List D} {wi : TI} {g : TG} {vs js : List Nat} {src : Cs} {o : D → Option (D × D)} {ρ' : D → Ro} (hi : EvI K wi ρ cs src ds) (hg : ∀ d ∈ ds, EvG K g d (wipeD ρ vs) (ρ' d) js) (hj : ∀ j ∈ js, j ∈ vs)
    (ht : ∀ d ∈ ds, EvT K tt (ρ' d) cs (o d).isSome) (he : ∀ d ∈ ds, ∀ kv, o d = some kv → Ev K tk (ρ' d) cs kv.1 ∧ Ev K tv (ρ' d) cs kv.2 ∧ xKey kv.1 = true) (hl : ds.length ≤ 100000) : EvD K (tDcX K w0 wi g tt tk tv vs) ρ cs (.dix w0 (ds.foldl (dcS o) [])) := fun G H σ w e Q q =>
  hi G H σ w e _ fun J G1 H1 n1 hsrc its p hp => by
    have w1 := w.step n1
    have e1 : Env K G1 (wipe σ vs) (wipeD ρ vs) := (e.mono n1.g).wipe vs
    refine ⟨fun i m Hc => m = ds.length - i ∧ i ≤ ds.length ∧ DcI K w0 G1 H1 p ((ds.take i).foldl (dcS o) []) Hc, ⟨ds.length, rfl, Nat.zero_le _, G1, [], Nx.newc w1.sub hp, Evl.fresh_back w1.sub hp, upd_same, .nil⟩, fun i m Hc hW => ?_⟩
    obtain ⟨rfl, hle, Gc, xs, n, gD, hD, rl⟩ := hW
    have wc := w1.step n
    by_cases hlt : i < ds.length
    · have hmem : ds[i] ∈ ds := List.getElem_mem hlt
      have hat : ds[i]? = some ds[i] := List.getElem?_eq_getElem hlt
      have hlen : ((ds.take i).foldl (dcS o) []).length < 100000 := by
        have := dcS_len (o := o) (ds.take i) []
        rw [List.length_take, List.length_nil] at this
        omega
      have tk : ds.take (i + 1) = ds.take i ++ [ds[i]] := by rw [List.take_add_one, List.getElem?_eq_getElem hlt]; rfl
      obtain ⟨go, yl⟩ := its.go i _ Gc Hc cs hat n.g wc hsrc
      refine .inr ⟨go, fun Hn => DcI K w0 G1 H1 p ((ds.take (i + 1)).foldl (dcS o) []) Hn, fun H' h => ⟨ds.length - (i + 1), by omega, rfl, by omega, h⟩, fun x H' hy => ?_⟩
      obtain ⟨G4, n4, rx⟩ := yl x H' hy
      refine hg _ hmem G4 H' (wipe σ vs) x n4.s ((e1.mono n.g).mono n4.g) rx _ fun σ2 e2 s2 => ⟨wipe_eq s2 hj, ?_⟩
      have w4 := wc.step n4
      refine ht _ hmem G4 H' σ2 w4 e2 _ fun G5 H5 n5 => ?_
      have gD5 : G5 p = none := (n4.trans n5).keepN hD gD
      have hD5 : H5 p = some (.ext (dxP p w0 xs)) := (n4.trans n5).h _ _ hD
      have hS : (ds.take (i + 1)).foldl (dcS o) [] = dcS o ((ds.take i).foldl (dcS o) []) ds[i] := by rw [tk, List.foldl_append]; rfl
      rw [hS]
      cases ho : o ds[i] with
      | none =>
        have : dcS o ((ds.take i).foldl (dcS o) []) ds[i] = (ds.take i).foldl (dcS o) [] := by unfold dcS; rw [ho]
        rw [this]
        exact ⟨G5, xs, (n.trans n4).trans n5, gD5, hD5, rl.mono (n4.trans n5).g⟩
      | some kv =>
        obtain ⟨hk, hv, hx⟩ := he _ hmem kv ho
        have : dcS o ((ds.take i).foldl (dcS o) []) ds[i] = dxSet ((ds.take i).foldl (dcS o) []) kv.1 kv.2 := by unfold dcS; rw [ho]
        rw [this]
        refine hk G5 H5 σ2 (w4.step n5) (e2.mono n5.g) _ fun y G6 H6 n6 ry => ?_
        refine hv G6 H6 σ2 ((w4.step n5).step n6) ((e2.mono n5.g).mono n6.g) _ fun z G7 H7 n7 rz => ?_
        have w7 := ((w4.step n5).step n6).step n7
        have gD7 : G7 p = none := (n6.trans n7).keepN hD5 gD5
        have hD7 : H7 p = some (.ext (dxP p w0 xs)) := (n6.trans n7).h _ _ hD5
        have rl7 := rl.mono (((n4.trans n5).trans n6).trans n7).g
        have ry7 := ry.mono n7.g
        obtain ⟨dk, kk, hdk, hkk, hdp⟩ := xKey_ok hx
        have hya : ∃ a, y = V.ref a := by
          rw [hdk] at ry7
          cases ry7
          exact ⟨_, rfl⟩
        obtain ⟨a, rfl⟩ := hya
        refine ⟨a, xs, kk, rfl, ⟨hD7, rl7.keys w7.sub, rep_key w7.sub ry7 hkk, hdp⟩, by rw [rl7.length]; exact Evl.sz_lt hlen, fun u ru => ?_⟩
        exact ⟨G7, _, (((((n.trans n4).trans n5).trans n6).trans n7).mutate hp gD7), gD7, upd_same, rl7.put hkk ry7 ru rz⟩
    · refine .inl ⟨its.stop i Gc Hc cs (by omega) n.g wc hsrc, ?_⟩
      rw [List.take_of_length_le (by omega)] at rl
      obtain ⟨us, z1, z2, z3⟩ := dxr_to rl
      exact q p Gc Hc (n1.trans n) (Evl.fresh_back n1.h hp) gD ⟨xs, us, hD, z1, z2, z3⟩
/-- one item -/
noncomputable def dc1 (g : FG) (c k v : FE) (φ : Fs) (d : D) : Option (Option (D × D)) := match lc1 g c k φ d, lc1 g c v φ d with
  | some (some a), some (some b) => if xKey a = true then some (some (a, b)) else none
  | some none, some none => some none
  | _, _ => none
noncomputable def dcGo (f : D → Option (Option (D × D))) : List D → List (D × D) → Option (List (D × D))
  | [], es => some es
  | d :: ds, es => match f d with
    | none => none
    | some none => dcGo f ds es
    | some (some kv) => dcGo f ds (dxSet es kv.1 kv.2)
theorem dcGo_some {f : D → Option (Option (D × D))} : ∀ {ds : List D} {es r : List (D × D)}, dcGo f ds es = some r → (∀ d ∈ ds, ∃ o, f d = some o) ∧ r = ds.foldl (dcS fun d => (f d).join) es
  | [], es, r, h => by cases h; exact ⟨fun d hd => absurd hd (by simp), rfl⟩
  | d :: ds, es, r, h => by
    rw [dcGo] at h
    cases hf : f d with
    | none => rw [hf] at h; cases h
    | some o =>
      rw [hf] at h
      have hS : dcS (fun d => (f d).join) es d = match o with | none => es | some kv => dxSet es kv.1 kv.2 := by
        unfold dcS
        simp only [hf, Option.join_some]
        cases o <;> rfl
      cases o with
      | none =>
        obtain ⟨h1, h2⟩ := dcGo_some h
        refine ⟨fun x hx => ?_, ?_⟩
        · rcases List.mem_cons.mp hx with rfl | hx
          · exact ⟨_, hf⟩
          · exact h1 x hx
        · rw [List.foldl_cons, hS]; exact h2
      | some kv =>
        obtain ⟨h1, h2⟩ := dcGo_some h
        refine ⟨fun x hx => ?_, ?_⟩
        · rcases List.mem_cons.mp hx with rfl | hx
          · exact ⟨_, hf⟩
          · exact h1 x hx
        · rw [List.foldl_cons, hS]; exact h2
noncomputable def fDcX (w0 : World) (i : FI) (g : FG) (c k v : FE) (vs : List Nat) : FE := fun φ => match i φ with
  | some (.ok ds _) => if ds.length ≤ 100000 then (dcGo (dc1 g c k v (wipeS φ vs)) ds []).map fun es => .ok .nw (.dix w0 es) else none
  | _ => none
theorem dc1_ok {g : TG} {Fg : FG} {js : List Nat} {vs : List Nat} {o : Option (D × D)} (hg : GF K g Fg js) (hc : TF K W bs ε tt C) (hk : EF K W bs ε tk A) (hv : EF K W bs ε tv B) (xo : XO ε bs as φ xs) (h : dc1 Fg C A B (wipeS φ vs) d = some o) :
    ∃ φ1, Fg d (wipeS φ vs) = some φ1 ∧ EvG K g d (wipeD (roOf as 0 φ) vs) (roOf as 0 φ1) js ∧ EvT K tt (roOf as 0 φ1) (csOf as 0 φ ++ xs) o.isSome ∧ ∀ kv, o = some kv → Ev K tk (roOf as 0 φ1) (csOf as 0 φ ++ xs) kv.1 ∧ Ev K tv (roOf as 0 φ1) (csOf as 0 φ ++ xs) kv.2 ∧ xKey kv.1 = true := by
  unfold dc1 at h
  split at h
  · rename_i a b h1 h2
    split at h
    · rename_i hx
      cases h
      obtain ⟨φ1, k1, k2, k3, k4⟩ := lc1_ok hg hc hk xo h1
      obtain ⟨φ1', l1, l2, l3, l4⟩ := lc1_ok hg hc hv xo h2
      rw [k1] at l1
      cases l1
      exact ⟨φ1, k1, k2, k3, fun kv e => by cases e; exact ⟨k4 a rfl, l4 b rfl, hx⟩⟩
    · cases h
  · rename_i h1 h2
    cases h
    obtain ⟨φ1, k1, k2, k3, k4⟩ := lc1_ok hg hc hk xo h1
    exact ⟨φ1, k1, k2, k3, fun kv e => by cases e⟩
  · cases h
theorem ef_dcX {wi : TI} {g : TG} {I : FI} {Fg : FG} {js vs : List Nat} (hi : IF K W bs ε wi I) (hg : GF K g Fg js) (hj : ∀ j ∈ js, j ∈ vs) (hc : TF K W bs ε tt C) (hk : EF K W bs ε tk A) (hv : EF K W bs ε tv B) : EF K W bs ε (tDcX K w0 wi g tt tk tv vs) (fDcX w0 I Fg C A B vs) := fun as xs φ r xo h => by
  unfold fDcX at h
  split at h
  · rename_i ds src e
    split at h
    · rename_i hl
      cases hgo : dcGo (dc1 Fg C A B (wipeS φ vs)) ds [] with
      | none => rw [hgo] at h; cases h
      | some es =>
        rw [hgo] at h
        cases h
        obtain ⟨h1, rfl⟩ := dcGo_some hgo
        have hI : ∃ src', EvI K wi (roOf as 0 φ) (csOf as 0 φ ++ xs) src' ds := by
          rcases hi ε.bo as xs φ _ xo e with ⟨_, h⟩ | ⟨j, _, _, h⟩
          · exact ⟨_, h⟩
          · exact ⟨_, h⟩
        obtain ⟨src', hI⟩ := hI
        refine EvD.m (ed_dcX (ρ' := fun d => match Fg d (wipeS φ vs) with | some φ1 => roOf as 0 φ1 | none => []) hI (fun d hd => ?_) hj (fun d hd => ?_) (fun d hd kv hs => ?_) hl) rfl
        · obtain ⟨o, ho⟩ := h1 d hd
          obtain ⟨φ1, k1, k2, _⟩ := dc1_ok hg hc hk hv xo ho
          simp only [k1]; exact k2
        · obtain ⟨o, ho⟩ := h1 d hd
          obtain ⟨φ1, k1, _, k3, _⟩ := dc1_ok hg hc hk hv xo ho
          simp only [k1, ho, Option.join_some]; exact k3
        · obtain ⟨o, ho⟩ := h1 d hd
          obtain ⟨φ1, k1, _, _, k4⟩ := dc1_ok hg hc hk hv xo ho
          simp only [ho, Option.join_some] at hs
          simp only [k1]; exact k4 kv hs
    · cases h
  · cases h
end
end Lv

/-! enumerate over a tuple -/
namespace Lv
open PySem L2 PyProof.Rows
open AutoSeq1 (wpAny_loadPart')
open Classical
theorem en_newT (l : Addr) (items : Array Value) (n : Nat) (dct : Option Addr) (sl : Array (Option Value)) :
    Meets (Builtin.«enumerate.__new__» ⟨[.type "enumerate", .ref l], []⟩) (fun _ R s => s.heap.get? l = some { cls := .type "tuple", dict := dct, data := .seq items n, slots := sl } ∧
      R (.ok (.ret (.ref (s.heap.push { cls := .type "tuple_iterator", data := .fields #[.ref l, .int 0 0] }).objs.size)))
        { s with heap := (s.heap.push { cls := .type "tuple_iterator", data := .fields #[.ref l, .int 0 0] }).push { cls := .type "enumerate", data := .fields #[.none, .bool false, .ref s.heap.objs.size, rawInt 0, .none, .none] } }) :=
  .of_wp fun prog w A R s h => by
    obtain ⟨hp, g, d, tk, os⟩ := s; obtain ⟨hl, h⟩ := h
    have hsub := sub_enumerate
    have hL : Heap.IsTuple (Shared.heap ⟨hp, g, d, tk, os⟩) l items := ⟨_, hl, rfl, n, rfl⟩
    wp_walk using wpAny_loadPart' hl
    refine wpAny_stack_any fun st => wpAny_pure ?_
    split
    · rename_i c _ _ _ _ _
      cases (c == Value.type "enumerate")
      · wp_walk using wpAny_loadPart' hl, wpAny_pyIter_tuple hL
        exact ⟨_, rfl, h⟩
      · wp_walk using wpAny_loadPart' hl, wpAny_pyIter_tuple hL
        exact ⟨_, rfl, h⟩
    · wp_walk using wpAny_loadPart' hl, wpAny_pyIter_tuple hL
      exact ⟨_, rfl, h⟩
theorem call_enumT {prog : Program} {w : World} {A : Around} {E : Value → Shared → Prop} {s : Shared} {l : Addr} {items : Array Value} {Q : Value → Shared → Prop} (hL : s.heap.IsTuple l items)
    (h : ∀ h', IsEnum h' (s.heap.objs.size + 1) s.heap.objs.size 0 .none → h'.IsTupleIter s.heap.objs.size l 0 →
      (∀ b o, s.heap.get? b = some o → h'.get? b = some o) → Q (.ref (s.heap.objs.size + 1)) { s with heap := h' }) :
    wpAny (model prog w) A (call (.type "enumerate") [.ref l]) Q E s := by
  obtain ⟨⟨c, dct, dt, sl⟩, hl, hc, n, hd⟩ := hL
  replace hc : c = .type "tuple" := hc
  replace hd : dt = .seq items n := hd
  subst hc hd
  refine callType_new F.called_enumerate (by decide) (F.typeCall_enumerate_1 _) (F.newCall_enumerate_1 _) (fun obj => F.args_object_init_2 obj _) F.entry_enumerate_new (en_newT l items n dct sl) ⟨hl, ?_⟩
  have hz : (s.heap.push { cls := .type "tuple_iterator", data := .fields #[.ref l, .int 0 0] }).objs.size = s.heap.objs.size + 1 := Heap.size_push ..
  show _ ∧ _
  rw [hz]
  have he : IsEnum ((s.heap.push { cls := .type "tuple_iterator", data := .fields #[.ref l, .int 0 0] }).push
      { cls := .type "enumerate", data := .fields #[.none, .bool false, .ref s.heap.objs.size, rawInt 0, .none, .none] }) (s.heap.objs.size + 1) s.heap.objs.size 0 .none := by
    have := Heap.get?_push_size (s.heap.push { cls := .type "tuple_iterator", data := .fields #[.ref l, .int 0 0] })
      (o := { cls := .type "enumerate", data := .fields #[.none, .bool false, .ref s.heap.objs.size, rawInt 0, .none, .none] }) rfl
    rw [hz] at this; exact this
  exact ⟨⟨_, he, rfl⟩, h _ he ⟨_, Heap.get?_push_of_some _ (Heap.get?_push_size _ rfl), rfl, rfl⟩ fun b o x => Heap.get?_push_of_some _ (Heap.get?_push_of_some _ x)⟩
/-- the tuple at a, each item in a new pair -/
def IteT (K : PySem.W.Frag) (a : Addr) : It :=
  ⟨fun i H => ∃ (xs : List V) (x : V), SqT K H a xs ∧ xs[i]? = some x, fun i H v H' => ∃ T x, v = .ref T ∧ H T = none ∧ H' = upd H T (.tup [.int (i : Nat), x]) ∧ ∀ xs, SqT K H a xs → xs[i]? = some x, fun i H => ∃ xs : List V, SqT K H a xs ∧ xs.length ≤ i⟩
theorem draws_end {prog : Program} {w : World} {A : Around} (hh : A.handled = none) {it a : Addr} {i : Nat} {items : Array Value} (hx : items[i]? = none) (hne : a ≠ it) : Draws prog w A it [it, a] i (fun _ _ => True) (fun k h => k = i ∧ h.IsTupleIter it a i ∧ h.IsTuple a items) where
  live := fun _ _ st => let ⟨o, ho, _⟩ := st.2.1; ⟨o, ho⟩
  frame := fun _ _ _ st hk => ⟨st.1, st.2.1.at fun o e => hk it (by simp) o e, st.2.2.at fun o e => hk a (by simp) o e⟩
  item := fun k s Q E hk st _ => absurd hk (by rw [st.1]; exact Nat.lt_irrefl _)
  done := fun s Q E st hE => wpAny_nextOf_tuple_end hh st.2.1 st.2.2 hx hE
theorem turn_enumT {P : Program} {w : World} {K : PySem.W.Frag} {elts : List Expr} {kk : Nat} {tpos : Pos} (a e it : Addr) :
    Turn P w K (.Tuple elts kk tpos) (IteT K a) [e, it] e (fun i h => (∃ old, IsEnum h e it ((i : Nat) : Int) old) ∧ h.IsTupleIter it a i ∧ e ≠ it ∧ e ≠ a ∧ a ≠ it) where
  mem := by simp
  obj := fun i h st b hb => by
    obtain ⟨⟨old, he⟩, ⟨o, ho, hc, hd⟩, _⟩ := st
    have e' : b = e ∨ b = it := by simpa using hb
    rcases e' with z | z
    · rw [z]; exact ⟨_, he, fun v q => nomatch q⟩
    · rw [z]; exact ⟨o, ho, fun v q => by rw [hd] at q; cases q⟩
  keep := fun i h h' st k => let ⟨⟨old, he⟩, hi, hne⟩ := st; ⟨⟨old, k e (by simp) _ he⟩, hi.at fun o q => k it (by simp) o q, hne⟩
  item := by
    intro X hP hw hK hc i pins s σ H E I hf st hg
    subst hP hw hK
    obtain ⟨⟨old, he⟩, hit, hne, hea, hai⟩ := st
    obtain ⟨xs, x, hq, hx⟩ := hg
    obtain ⟨its, rv, p, hz⟩ := I.tuple hq
    obtain ⟨u, hu, ru⟩ := rv.get hx
    have hel : e < s.heap.objs.size := Heap.lt_size he
    have hil : it < s.heap.objs.size := by obtain ⟨_, q, _⟩ := hit; exact Heap.lt_size q
    have hlt : i < its.toArray.size := by
      have := (List.getElem?_eq_some_iff.mp hu).1
      simpa using this
    have D := Draws.tuple (prog := X.prog) (w := X.w) (A := X.A.in1) (show X.A.in1.handled = none from I.ok.hd hc) it a hai its.toArray
    refine wpAny_pyNext_enum_itemD D he ⟨hit, p⟩ hlt hne (by simp [hne, hea]) fun x' h' tk hPx ho hit' hT hsz hk => ?_
    have hxu : x' = u := by
      have : its.toArray[i]? = some u := by simpa using hu
      rw [this] at hPx
      cases hPx
      rfl
    subst hxu
    refine ⟨_, rfl, wpAny_letOwnedTupleGo_enum (s := { s with heap := h', toks := tk + 1 }) ho fun h'' he' sb => ?_⟩
    have hT2 : h''.get? s.heap.objs.size = some { cls := .type "tuple", data := .seq #[.int i tk, x'] } := (sb.2 _ (Nat.ne_of_gt hel)).trans hT
    have new : ObjOk X.prog X.w (upd H s.heap.objs.size (.tup [.int (i : Nat), x])) h'' s.heap.objs.size (.tup [.int (i : Nat), x]) :=
      ⟨by show 2 ≤ sizeLine; decide, [.int i tk, x'], .cons ⟨_, rfl⟩ (.cons ru .nil), ⟨_, hT2, rfl, _, rfl⟩⟩
    have I1 : L2.Inv X pins σ (upd H s.heap.objs.size (.tup [.int (i : Nat), x])) { s with heap := h'', toks := tk + 1 } :=
      I.turnedNew (ch := [e, it]) (fun b ob hb q => (sb.2 b (fun z => hb (by simp [z]))).trans (hk b ob (fun z => hb (by simp [z])) (fun z => hb (by simp [z])) q)) hf (Nat.le_refl _) new
    refine ⟨.ref s.heap.objs.size, _, I1, rfl, ⟨_, x, rfl, I.hok.fresh (Nat.le_refl _), rfl, fun ys hy => ?_⟩, ⟨⟨x', ?_⟩, hit'.1.at fun o q => (sb.2 it (Ne.symm hne)).trans q, hne, hea, hai⟩, fun b hb => ?_⟩
    · rw [I.tuple_inj hy hq]; exact hx
    · have e1 : ((i + 1 : Nat) : Int) = (i : Int) + 1 := by omega
      rw [e1]; exact he'
    · have hb' : b < s.heap.objs.size := by
        have e' : b = e ∨ b = it := by simpa using hb
        rcases e' with z | z
        · rw [z]; exact hel
        · rw [z]; exact hil
      rw [L2.upd_ne (Nat.ne_of_lt hb')]
      exact (hf b hb).1
  done := by
    intro X hP hw hK hc i pins s σ H E I hf st hg
    subst hP hw hK
    obtain ⟨⟨old, he⟩, hit, hne, hea, hai⟩ := st
    obtain ⟨xs, hq, hx⟩ := hg
    obtain ⟨its, rv, p, hz⟩ := I.tuple hq
    obtain ⟨f0, f1, f2, f3, f4, f5⟩ := hf it (by simp)
    have hl := rv.length
    have hxx : its.toArray[i]? = none := by simp; omega
    have D := draws_end (prog := X.prog) (w := X.w) (A := X.A.in1) (show X.A.in1.handled = none from I.ok.hd hc) hxx hai
    exact wpAny_pyNext_enum_endD D he ⟨rfl, hit, p⟩ fun h' eb => ⟨rfl, I.turned (t' := s.toks) (fun b o hb q => eb b o hb q) f0 f1 f3 f4 f5⟩
  self := fun A i s Q E st h => let ⟨⟨_, he⟩, _⟩ := st; wpAny_pyIter_enum he h
def iEnumT (K : PySem.W.Frag) (ta : TA) : TI := fun σ H R => ta σ H fun vs H1 => ∃ a xs, vs = [.ref a] ∧ SqT K H1 a xs ∧ R (IteT K a) H1
theorem pi_enumT (K : PySem.W.Frag) {X : Cx} {e : Expr} {ta : TA} {p pos tpos : Pos} {elts : List Expr} {kk : Nat} (hg : Gl X "enumerate") (hm : X.mg "enumerate" = none) (ha : PA X [e] ta) (hK : X.K = K := by rfl) (hs : starEach [e] X.env = [(false, eval e X.env)] := by rfl) :
    PI X (.Tuple elts kk tpos) (.Call (.Name "enumerate" p) [e] [] pos) (iEnumT K ta) := by
  subst hK
  refine ⟨fun pins s σ H R I h => ?_⟩
  refine Call_ (ld_blt I hg hm boot_enumerate (PyProof.Rows.callWith_type1 (thn (ha.run pos pins s σ H _ I h) fun us s1 ⟨vs, H1, I1, r1, q1⟩ => ?_) hs rfl))
  obtain ⟨a, xs, ex, hq, q⟩ := q1
  subst ex
  cases r1 with
  | cons r rr =>
    cases rr
    cases r
    obtain ⟨its, rv, p', hz⟩ := I1.tuple hq
    have hlt : a < s1.heap.objs.size := by obtain ⟨o, ho, _⟩ := p'; exact Heap.lt_size ho
    refine call_enumT p' fun h' he hit hk => wpAny_pyIter_enum he ?_
    have I2 : L2.Inv X pins σ H1 { s1 with heap := h' } := I1.kept (t' := s1.toks) hk
    refine ⟨s1.heap.objs.size + 1, [s1.heap.objs.size + 1, s1.heap.objs.size], _, _, H1, rfl, I2, turn_enumT a (s1.heap.objs.size + 1) s1.heap.objs.size, ⟨⟨.none, he⟩, hit, Nat.succ_ne_self _, Nat.ne_of_gt (Nat.lt_succ_of_lt hlt), Nat.ne_of_lt hlt⟩, fun b hb => ?_, q⟩
    have e' : b = s1.heap.objs.size + 1 ∨ b = s1.heap.objs.size := by simpa using hb
    have hle : s1.heap.objs.size ≤ b := by
      rcases e' with z | z
      · rw [z]; exact Nat.le_add_right _ _
      · rw [z]; exact Nat.le_refl _
    exact I1.fpOk hle (I1.hok.fresh hle)
end Lv

/-! F: enumerate over a list or a tuple; __init__ with a dict field: the whole def -/
namespace Lv
open PySem L2 PyProof.Rows
open Evl (Ex)
open Classical
def iEnumU (K : PySem.W.Frag) (ta : TA) : TI := fun σ H R => ta σ H fun vs H1 => ∃ a xs, vs = [.ref a] ∧ ((SqL K H1 a xs ∧ R (Ite K a) H1) ∨ (SqT K H1 a xs ∧ R (IteT K a) H1))
theorem pi_enumU (K : PySem.W.Frag) {X : Cx} {e : Expr} {ta : TA} {p pos tpos : Pos} {elts : List Expr} {kk : Nat} (hg : Gl X "enumerate") (hm : X.mg "enumerate" = none) (ha : PA X [e] ta) (hK : X.K = K := by rfl) (hs : starEach [e] X.env = [(false, eval e X.env)] := by rfl) :
    PI X (.Tuple elts kk tpos) (.Call (.Name "enumerate" p) [e] [] pos) (iEnumU K ta) := by
  subst hK
  refine ⟨fun pins s σ H R I h => ?_⟩
  refine Call_ (ld_blt I hg hm boot_enumerate (PyProof.Rows.callWith_type1 (thn (ha.run pos pins s σ H _ I h) fun us s1 ⟨vs, H1, I1, r1, q1⟩ => ?_) hs rfl))
  obtain ⟨a, xs, ex, q⟩ := q1
  subst ex
  cases r1 with
  | cons r rr =>
    cases rr
    cases r
    have fp : ∀ b ∈ [s1.heap.objs.size + 1, s1.heap.objs.size], FpOk X pins H1 b := fun b hb => by
      have e' : b = s1.heap.objs.size + 1 ∨ b = s1.heap.objs.size := by simpa using hb
      have hle : s1.heap.objs.size ≤ b := by
        rcases e' with z | z
        · rw [z]; exact Nat.le_add_right _ _
        · rw [z]; exact Nat.le_refl _
      exact I1.fpOk hle (I1.hok.fresh hle)
    rcases q with ⟨hq, q⟩ | ⟨hq, q⟩
    · obtain ⟨its, rv, p', hz⟩ := I1.list hq
      refine call_enumerate_list p'.isList fun h' he hit hsz hk => wpAny_pyIter_enum he ?_
      have I2 : L2.Inv X pins σ H1 { s1 with heap := h' } := I1.kept (t' := s1.toks) hk
      exact ⟨s1.heap.objs.size + 1, [s1.heap.objs.size + 1, s1.heap.objs.size], _, _, H1, rfl, I2, turn_enum a (s1.heap.objs.size + 1) s1.heap.objs.size, ⟨⟨.none, he⟩, hit, Nat.succ_ne_self _⟩, fp, q⟩
    · obtain ⟨its, rv, p', hz⟩ := I1.tuple hq
      have hlt : a < s1.heap.objs.size := by obtain ⟨o, ho, _⟩ := p'; exact Heap.lt_size ho
      refine call_enumT p' fun h' he hit hk => wpAny_pyIter_enum he ?_
      have I2 : L2.Inv X pins σ H1 { s1 with heap := h' } := I1.kept (t' := s1.toks) hk
      exact ⟨s1.heap.objs.size + 1, [s1.heap.objs.size + 1, s1.heap.objs.size], _, _, H1, rfl, I2, turn_enumT a (s1.heap.objs.size + 1) s1.heap.objs.size, ⟨⟨.none, he⟩, hit, Nat.succ_ne_self _, Nat.ne_of_gt (Nat.lt_succ_of_lt hlt), Nat.ne_of_lt hlt⟩, fp, q⟩
/-- the pairs (number, item) -/
def enL (xs : List D) : List D := xs.zipIdx.map fun p => .tup [.int (p.2 : Nat), p.1]
section
variable {K : PySem.W.Frag} {G G0 G1 G2 G3 H H0 H1 H2 H3 : Hp} {ρ ρ1 : Ro} {cs cs' xs : Cs} {ta tb te : TE} {d d' e x y z : D} {W : WX} {bs : List Addr} {ε : Xe} {t u : TS} {tr : TA} {T : FA} {as : Nat → Addr} {φ φ' : Fs} {M : FS} {P : Po} {w0 : World}
theorem enL_at {ds : List D} {i : Nat} {d : D} (h : (enL ds)[i]? = some d) : ∃ x, ds[i]? = some x ∧ d = .tup [.int (i : Nat), x] := by
  unfold enL at h
  rw [List.getElem?_map, List.getElem?_zipIdx] at h
  cases hx : ds[i]? with
  | none => rw [hx] at h; cases h
  | some x =>
    rw [hx] at h
    cases h
    exact ⟨x, rfl, by simp⟩
theorem enL_len {ds : List D} : (enL ds).length = ds.length := by
  unfold enL
  rw [List.length_map, List.length_zipIdx]
theorem ei_enumT {ds : List D} (h : EvA K tr ρ cs [.tup ds]) : EvI K (iEnumU K tr) ρ cs [] (enL ds) := fun G H σ w e R q => h G H σ w e _ fun vs G2 H2 n r => by
  cases r with
  | cons r0 r1 =>
    cases r1
    cases r0 with
    | @tup a us _ ha ra =>
      refine ⟨a, us, rfl, .inr ⟨Evl.ex_t n.s ha.sq, q _ G2 H2 n no_src ⟨fun i d G3 H3 cs3 hd x w3 _ => ?_, fun i G3 H3 cs3 hi x w3 _ => ?_⟩⟩⟩
      · have hA : SqT K H3 a us := Evl.ex_t (x.trans w3.sub) ha.sq
        obtain ⟨y, hy, rfl⟩ := enL_at hd
        obtain ⟨v1, hv1, rv1⟩ := ra.get hy
        refine ⟨⟨us, v1, hA, hv1⟩, fun z H' hz => ?_⟩
        obtain ⟨T, x1, rfl, hT, rfl, f1⟩ := hz
        cases (f1 _ hA).symm.trans hv1
        exact ⟨_, Nx.new w3.sub hT, .tup (.inl upd_same) (.cons (.int _) (.cons ((rv1.mono x).mono (Ex.new (Evl.fresh_back w3.sub hT))) .nil))⟩
      · rw [enL_len] at hi
        refine ⟨us, Evl.ex_t (x.trans w3.sub) ha.sq, ?_⟩
        rw [ra.length]
        exact hi
theorem ei_enumL {ds : List D} (h : EvA K tr ρ cs [.lst ds]) : EvI K (iEnumU K tr) ρ cs [] (enL ds) := fun G H σ w e R q => h G H σ w e _ fun vs G2 H2 n r => by
  cases r with
  | cons r0 r1 =>
    cases r1
    cases r0 with
    | @lst a us _ ha ra =>
      have hsq : ∀ {H3 : Hp}, Ex G2 H3 → SqL K H3 a us := fun {H3} x => .inl (.inl (x _ _ ha))
      refine ⟨a, us, rfl, .inl ⟨hsq n.s, q _ G2 H2 n no_src ⟨fun i d G3 H3 cs3 hd x w3 _ => ?_, fun i G3 H3 cs3 hi x w3 _ => ?_⟩⟩⟩
      · have hA : SqL K H3 a us := hsq (x.trans w3.sub)
        obtain ⟨y, hy, rfl⟩ := enL_at hd
        obtain ⟨v1, hv1, rv1⟩ := ra.get hy
        refine ⟨⟨us, v1, hA, hv1⟩, fun z H' hz => ?_⟩
        obtain ⟨T, x1, rfl, hT, rfl, f1⟩ := hz
        cases (f1 _ hA).symm.trans hv1
        exact ⟨_, Nx.new w3.sub hT, .tup (.inl upd_same) (.cons (.int _) (.cons ((rv1.mono x).mono (Ex.new (Evl.fresh_back w3.sub hT))) .nil))⟩
      · rw [enL_len] at hi
        refine ⟨us, hsq (x.trans w3.sub), ?_⟩
        rw [ra.length]
        exact hi
def iEnumF (a : FA) : FI := fun φ => ib (a φ) fun ds => match ds with
  | [.tup xs] => some (.ok (enL xs) none)
  | [.lst xs] => some (.ok (enL xs) none)
  | _ => none
theorem if_enum (ht : AFb K W bs ε tr T) : IF K W bs ε (iEnumU K tr) (iEnumF T) := fun bo as xs φ r xo h => by
  rcases ib_some h with ⟨c, g, e, rfl⟩ | ⟨ks, e, hk, h⟩
  · exact fun G H σ w en R q => ht bo as xs φ _ xo e G H σ w en _ q
  have ha := EvAM.a (ht bo as xs φ _ xo e) hk
  split at h
  · rename_i us hn
    rw [hn] at ha
    cases h
    exact .inl ⟨rfl, ei_enumT ha⟩
  · rename_i us hn
    rw [hn] at ha
    cases h
    exact .inl ⟨rfl, ei_enumL ha⟩
  · cases h
end
end Lv

/-! F: __init__ with a dict field: the whole def -/
namespace Lv
open PySem L2
open Classical
def startX (C : Addr) (Nm : List Str) (ds : List D) : Fs := .bw (.obj C []) :: (ds.map Sl.pl ++ List.replicate (Nm.length - (ds.length + 1)) Sl.no)
noncomputable def runX (C : Addr) (Nm : List Str) (n : Nat) (F : Fs → Option Out) : List D → Option Out := fun ds => if ds.length = n then F (startX C Nm ds) else none
theorem runX_len {C : Addr} {Nm : List Str} {n : Nat} {F : Fs → Option Out} {ds : List D} {o : Out} (hr : runX C Nm n F ds = some o) : ds.length = n := by
  unfold runX at hr
  split at hr
  · assumption
  · cases hr
section
variable {K : PySem.W.Frag} {W : WX} {ε : Xe} {t u : TS}
theorem sv_runX {C a : Addr} {Nm : List Str} {n : Nat} {F : Fs → Option Out} {ds : List D} {o : Out} (h : SI K W ε C a t F) (hr : runX C Nm n F ds = some o) : Sv K W [a] t (startD Nm (.any (.ref a) :: ds)) [(a, .obj C [])] (poI C a o) := by
  unfold runX at hr
  split at hr
  · refine h _ o _ _ ?_ hr
    unfold startX
    refine ⟨fun _ => a, ⟨fun i j s t h1 h2 h3 h4 _ => ?_, fun i s h1 h2 c hc => by simp at hc, by simp, fun i d h1 => ?_, fun i d h1 => rfl, fun i c f h1 => ?_⟩, ?_, ?_⟩
    · cases i with
      | succ i =>
        rw [List.getElem?_cons_succ] at h1
        rw [(pls_at h1).1] at h3; cases h3
      | zero =>
        cases j with
        | zero => rfl
        | succ j =>
          rw [List.getElem?_cons_succ] at h2
          rw [(pls_at h2).1] at h4; cases h4
    · cases i with
      | zero => cases h1
      | succ i =>
        rw [List.getElem?_cons_succ] at h1
        have := (pls_at h1).1; cases this
    · cases i with
      | zero => cases h1
      | succ i =>
        rw [List.getElem?_cons_succ] at h1
        have := (pls_at h1).2; cases this
    · rw [roOf, ro_pls]
      unfold startD
      rw [List.length_cons, List.map_cons, List.cons_append]
      exact le.refl _
    · rw [csOf, cs_pls fun i s hs => (pls_at hs).1]
      exact fun c hc => by simpa [Sl.cs] using hc
  · cases hr
end
section
variable {P : Program} {w : World} {K : PySem.W.Frag} {mg : Str → Option Value} {base : Heap}
theorem fn_okFX {x qual : Str} {st : Stmt} {f C : Addr} {fd : FuncData} {N ps : List Str} {k n : Nat} {b : Fs → Option Out} (F : FunU K x qual st f fd) (S : FnScope N ps (defScope st)) (hn : ps.length = n + 1)
    (hbody : ∀ (cdv : Value) (A' : Around) (outer : List PySem.Env) (s : Shared) (H : Hp) (E : XK), Room k (cxN P w K mg base N qual st f cdv A' outer s H E).A → L2N.Takes (cxN P w K mg base N qual st f cdv A' outer s H E) (Wd E) →
      PassesOwn (model P w) (cxN P w K mg base N qual st f cdv A' outer s H E).A (cxN P w K mg base N qual st f cdv A' outer s H E).env (cxN P w K mg base N qual st f cdv A' outer s H E).xe →
      ∃ t, PSs (cxN P w K mg base N qual st f cdv A' outer s H E) (defBody st) t ∧ ∀ a ε, SI K (Wd E) ε C a t b) :
    FnOk P w K mg base (L2N.CX P w) (k + 1) f fd ps (spI K C n (relF (runX C N n b))) :=
  fn_okI F S hn fun cdv A' outer s H E hr tk po => by
    obtain ⟨t, h1, h2⟩ := hbody cdv A' outer s H E hr tk po
    exact ⟨t, h1, fun a ds o _ hA => sv_runX (h2 a ⟨f, .ref f, none, fun _ => f⟩) hA⟩
end
end Lv

/-! equations: enumerate, pairs as targets -/
namespace Lv
open PySem L2
open Classical
section
variable {φ : Fs} {t : FA} {i j : Nat} {a b : D} {k : Kd} {xs : List D}
theorem y_gT2 : gT 2 (gsCons (gN i) (gsCons (gN j) gsNil)) (.tup [a, b]) φ = some ((φ.set i (.pl a)).set j (.pl b)) := rfl
def enR (o : Option As) := ib o fun ds => match ds with
  | [.tup xs] => some (.ok (enL xs) none)
  | [.lst xs] => some (.ok (enL xs) none)
  | _ => none
theorem y_enum : iEnumF t φ = enR (t φ) := rfl
theorem n_enT (hk : k.fz = true) : enR (some (.ok [(k, .tup xs)])) = some (.ok (enL xs) none) := by
  cases k <;> first | rfl | cases hk
theorem n_enL (hk : k.fz = true) : enR (some (.ok [(k, .lst xs)])) = some (.ok (enL xs) none) := by
  cases k <;> first | rfl | cases hk
theorem y_lift {M : FS} {p : Addr} {es : List (D × D)} : xLift M p φ es = (match M φ with
  | some (.nx φ') => some (φ', es)
  | _ => none) := rfl
theorem y_xseq {a b : Addr → FX} {p : Addr} {es : List (D × D)} : xSeq a b p φ es = (match a p φ es with
  | some q => b p q.1 q.2
  | none => none) := rfl
theorem y_xwipe {vs : List Nat} {b : Addr → FX} {p : Addr} {es : List (D × D)} : xWipe vs b p φ es = (match b p φ es with
  | some q => some (wipeS q.1 vs, q.2)
  | none => none) := rfl
theorem xGo_pre {α : Type} {enc : α → D} {g : FG} {b : FX} (st : List α → Fs × List (D × D)) : ∀ (xs p0 : List α), (∀ p x q, p0 ++ xs = p ++ x :: q → ∃ φ1, g (enc x) (st p).1 = some φ1 ∧ b φ1 (st p).2 = some (st (p ++ [x]))) → xGo g b (xs.map enc) (st p0).1 (st p0).2 = some (st (p0 ++ xs))
  | [], p0, _ => by rw [List.append_nil]; rfl
  | x :: xs, p0, h => by
    obtain ⟨φ1, h1, h2⟩ := h p0 x xs rfl
    have := xGo_pre (enc := enc) (g := g) (b := b) st xs (p0 ++ [x]) fun p y q e => h p y q (by rw [← e]; simp)
    rw [List.append_assoc, List.singleton_append] at this
    rw [List.map_cons, xGo]
    simp only [h1, h2]
    exact this
end
end Lv

/-! equations: dicts with numbers as keys -/
namespace Lv
open PySem L2
open Classical
section
variable {a b : FE} {φ : Fs} {i : Nat} {es : List (L2.Key × D)} {k k2 : Kd} {v : D} {n : Int}
def diR (k : Kd) (x y : D) : Option Rs := if k.fz = true then (dLook y x).map fun o => .ok .pl (.bl o.isSome) else none
def dnR (k : Kd) (x y : D) : Option Rs := if k.fz = true then (dLook y x).map fun o => .ok .pl (.bl (!o.isSome)) else none
def dpR (i : Nat) (φ : Fs) (o : Option D) (p q : Option Rs) : Option Br := match o with
  | some d => match okV p, okV q with
    | some kd, some vd => (dPut d kd vd).map fun d' => .nx (putCell φ i d')
    | _, _ => none
  | _ => none
theorem y_din : fDIn a b φ = rb (a φ) fun k x => rb (b φ) fun _ y => diR k x y := rfl
theorem y_dnin : fDNin a b φ = rb (a φ) fun k x => rb (b φ) fun _ y => dnR k x y := rfl
theorem y_dput : fDPut i a b φ = dpR i φ (cellOf φ i) (a φ) (b φ) := by unfold fDPut dpR; rfl
theorem y_dnewK : fDNewK φ = some (.ok .nw (.dik [])) := rfl
theorem y_di1 (hk : k.fz = true) : diR k (.int n) (.dik es) = some (.ok .pl (.bl (valD es (.inl n)).isSome)) := if_pos hk
theorem y_dn1 (hk : k.fz = true) : dnR k (.int n) (.dik es) = some (.ok .pl (.bl (!(valD es (.inl n)).isSome))) := if_pos hk
theorem y_dp1 (h1 : k.fz = true) (h2 : k2.fz = true) (hl : es.length < 100000) : dpR i φ (some (.dik es)) (some (.ok k (.int n))) (some (.ok k2 v)) = some (.nx (putCell φ i (.dik (putE es (.inl n) v)))) := by
  have e1 : okV (some (.ok k (.int n))) = some (.int n) := by cases k <;> first | rfl | cases h1
  have e2 : okV (some (.ok k2 v)) = some v := by cases k2 <;> first | rfl | cases h2
  unfold dpR
  simp only [e1, e2]
  have e3 : dPut (.dik es) (.int n) v = some (.dik (putE es (.inl n) v)) := by
    show (if es.length < 100000 then _ else none) = _
    rw [if_pos hl]
    rfl
  rw [e3]
  rfl
end
end Lv

/-! a dict as a set of numbers -/
namespace Lv
open PySem L2
open Classical
theorem valD_any : ∀ (es : List (L2.Key × D)) (k : L2.Key), (valD es k).isSome = es.any fun e => decide (e.1 = k)
  | [], k => rfl
  | e :: es, k => by
    have ih := valD_any es k
    unfold valD at ih ⊢
    rw [List.find?_cons, List.any_cons]
    cases h : decide (e.1 = k) with
    | true => rfl
    | false => rw [Bool.false_or]; exact ih
theorem putE_val {es : List (L2.Key × D)} {k k' : L2.Key} {v : D} : (valD (putE es k v) k').isSome = (decide (k = k') || (valD es k').isSome) := by
  rw [valD_any, valD_any]
  unfold putE
  split
  · rename_i h
    rw [List.any_map]
    have e : ((fun e : L2.Key × D => decide (e.1 = k')) ∘ fun e => if e.1 = k then (e.1, v) else e) = fun e => decide (e.1 = k') := by
      funext e
      simp only [Function.comp]
      split <;> rfl
    rw [e]
    by_cases hk : k = k'
    · subst hk
      rw [h]
      simp
    · simp [hk]
  · rw [List.any_append]
    simp only [List.any_cons, List.any_nil, Bool.or_false]
    rw [Bool.or_comm]
/-- a set of numbers -/
noncomputable def setE (qs : List Nat) : List (L2.Key × D) := qs.foldl (fun es q => putE es (.inl ((q : Nat) : Int)) (.bl true)) []
theorem setE_fold {q : Nat} : ∀ (qs : List Nat) (es : List (L2.Key × D)), (valD (qs.foldl (fun es q => putE es (.inl ((q : Nat) : Int)) (.bl true)) es) (.inl ((q : Nat) : Int))).isSome = (decide (q ∈ qs) || (valD es (.inl ((q : Nat) : Int))).isSome)
  | [], es => by simp
  | p :: qs, es => by
    rw [List.foldl_cons, setE_fold qs, putE_val]
    have e : decide ((Sum.inl ((p : Nat) : Int) : L2.Key) = .inl ((q : Nat) : Int)) = decide (q = p) := by
      rw [decide_eq_decide]
      constructor
      · intro h
        injection h with h
        exact (Int.ofNat.inj h).symm
      · intro h
        rw [h]
    rw [e, ← Bool.or_assoc]
    congr 1
    rw [Bool.eq_iff_iff]
    simp [or_comm]
theorem setE_in {q : Nat} {qs : List Nat} : (valD (setE qs) (.inl ((q : Nat) : Int))).isSome = decide (q ∈ qs) := by
  unfold setE
  rw [setE_fold]
  simp [valD]
end Lv

/-! equations: chains of comparisons, any, all -/
namespace Lv
open PySem L2
open Classical
section
variable {a b c : FE} {φ : Fs} {f g : D → D → Option (Kd × D)}
def chR (f g : D → D → Option (Kd × D)) (x y z : D) : Option Rs := match f x y with
  | some (.pl, .bl true) => (match g y z with
    | some (.pl, .bl b) => some (.ok .pl (.bl b))
    | _ => none)
  | some (.pl, .bl false) => some (.ok .pl (.bl false))
  | _ => none
theorem y_chain {k k2 k3 : Kd} {x y z : D} (h1 : a φ = some (.ok k x)) (h2 : b φ = some (.ok k2 y)) (h3 : c φ = some (.ok k3 z)) : fChain f g a b c φ = chR f g x y z := by
  rw [x_chain, h1, h2, h3]
  simp only [rb_ok]
  rfl
theorem n_chLL {p q r : Nat} : chR leF ltF (.int p) (.int q) (.int r) = some (.ok .pl (.bl (decide (p ≤ q) && decide (q < r)))) := by
  have e1 : leF (.int p) (.int q) = some (.pl, .bl (decide (p ≤ q))) := n_le
  have e2 : ltF (.int q) (.int r) = some (.pl, .bl (decide (q < r))) := n_lt
  unfold chR
  rw [e1, e2]
  cases decide (p ≤ q) <;> rfl
theorem n_chLE {p q r : Nat} : chR leF leF (.int p) (.int q) (.int r) = some (.ok .pl (.bl (decide (p ≤ q) && decide (q ≤ r)))) := by
  have e1 : leF (.int p) (.int q) = some (.pl, .bl (decide (p ≤ q))) := n_le
  have e2 : leF (.int q) (.int r) = some (.pl, .bl (decide (q ≤ r))) := n_le
  unfold chR
  rw [e1, e2]
  cases decide (p ≤ q) <;> rfl
end
end Lv

/-! data without truth values: == is being the same -/
namespace Lv
open PySem L2
open Classical
mutual
def nbD : D → Bool
  | .non => true
  | .int _ => true
  | .str _ => true
  | .tup xs => nbL xs
  | .lst xs => nbL xs
  | _ => false
def nbL : List D → Bool
  | [] => true
  | x :: xs => nbD x && nbL xs
end
theorem nbL_map {α : Type} {f : α → D} : ∀ {xs : List α}, (∀ x ∈ xs, nbD (f x) = true) → nbL (xs.map f) = true
  | [], _ => by rw [List.map_nil, nbL]
  | x :: xs, h => by rw [List.map_cons, nbL, h x List.mem_cons_self, nbL_map fun y hy => h y (List.mem_cons_of_mem _ hy)]; rfl
mutual
theorem eqD_nb : ∀ {a b : D}, nbD a = true → nbD b = true → eqD a b = decide (a = b)
  | .non, b, ha, hb => by
    cases b <;> first | (simp [nbD] at hb; done) | simp [eqD, toPy, PyData.eqv]
  | .int i, b, ha, hb => by
    cases b <;> first | (simp [nbD] at hb; done) | (rw [eqD_int, Bool.eq_iff_iff]; simp; done) | simp [eqD, toPy, PyData.eqv]
  | .str i, b, ha, hb => by
    cases b <;> first | (simp [nbD] at hb; done) | (rw [eqD_str, Bool.eq_iff_iff]; simp; done) | simp [eqD, toPy, PyData.eqv]
  | .tup xs, b, ha, hb => by
    cases b with
    | tup ys =>
      rw [nbD] at ha hb
      rw [eqD_tup, eqL_nb ha hb]
      simp
    | _ => first | (simp [nbD] at hb; done) | simp [eqD, toPy, PyData.eqv]
  | .lst xs, b, ha, hb => by
    cases b with
    | lst ys =>
      rw [nbD] at ha hb
      rw [eqD_lst, eqL_nb ha hb]
      simp
    | _ => first | (simp [nbD] at hb; done) | simp [eqD, toPy, PyData.eqv]
  | .bl _, b, ha, _ => by simp [nbD] at ha
  | .obj _ _, b, ha, _ => by simp [nbD] at ha
  | .scr _, b, ha, _ => by simp [nbD] at ha
  | .xdc _, b, ha, _ => by simp [nbD] at ha
  | .sit _ _, b, ha, _ => by simp [nbD] at ha
  | .dik _, b, ha, _ => by simp [nbD] at ha
  | .dit _, b, ha, _ => by simp [nbD] at ha
  | .dix _ _, b, ha, _ => by simp [nbD] at ha
  | .any _, b, ha, _ => by simp [nbD] at ha
theorem eqL_nb : ∀ {xs ys : List D}, nbL xs = true → nbL ys = true → eqL xs ys = decide (xs = ys)
  | [], [], _, _ => by simp [eqL]
  | [], y :: ys, _, _ => by simp [eqL]
  | x :: xs, [], _, _ => by simp [eqL]
  | x :: xs, y :: ys, h1, h2 => by
    rw [nbL, Bool.and_eq_true] at h1 h2
    rw [eqL, eqD_nb h1.1 h2.1, eqL_nb h1.2 h2.2, Bool.eq_iff_iff]
    simp
end
theorem apart_nb {α : Type} {f : α → D} (h : ∀ a, nbD (f a) = true) (inj : ∀ a b, f a = f b → a = b) : Apart f := fun a b => by
  rw [eqD_nb (h a) (h b), decide_eq_true_iff]
  exact ⟨inj a b, fun e => by rw [e]⟩
theorem inD_ap {α : Type} [DecidableEq α] {f : α → D} (h : Apart f) {a : α} {xs : List α} : inD (f a) (xs.map f) = decide (a ∈ xs) := by
  rw [Bool.eq_iff_iff, inD_iff h, decide_eq_true_iff]
/-- a whole kind of data -/
structure Kind {α : Type} (f : α → D) : Prop where
  nb : ∀ a, nbD (f a) = true
  inj : ∀ a b, f a = f b → a = b
theorem Kind.ap {α : Type} {f : α → D} (k : Kind f) : Apart f := apart_nb k.nb k.inj
theorem Kind.n_in {α : Type} [DecidableEq α] {f : α → D} (k : Kind f) {a : α} {xs : List α} (h1 : ok 20 (f a) = true) (h2 : ∀ x ∈ xs, ok 20 (f x) = true) : inF (f a) (.lst (xs.map f)) = some (.pl, .bl (decide (a ∈ xs))) := by
  rw [Lv.n_in h1 (by rw [okL_map, List.all_eq_true]; exact h2), inD_ap k.ap]
theorem Kind.n_inT {α : Type} [DecidableEq α] {f : α → D} (k : Kind f) {a : α} {xs : List α} (h1 : ok 20 (f a) = true) (h2 : ∀ x ∈ xs, ok 20 (f x) = true) : inF (f a) (.tup (xs.map f)) = some (.pl, .bl (decide (a ∈ xs))) := by
  rw [Lv.n_inT h1 (by rw [okL_map, List.all_eq_true]; exact h2), inD_ap k.ap]
theorem Kind.n_nin {α : Type} [DecidableEq α] {f : α → D} (k : Kind f) {a : α} {xs : List α} (h1 : ok 20 (f a) = true) (h2 : ∀ x ∈ xs, ok 20 (f x) = true) : ninF (f a) (.lst (xs.map f)) = some (.pl, .bl (!decide (a ∈ xs))) := by
  rw [Lv.n_nin h1 (by rw [okL_map, List.all_eq_true]; exact h2), inD_ap k.ap]
theorem Kind.n_ninT {α : Type} [DecidableEq α] {f : α → D} (k : Kind f) {a : α} {xs : List α} (h1 : ok 20 (f a) = true) (h2 : ∀ x ∈ xs, ok 20 (f x) = true) : ninF (f a) (.tup (xs.map f)) = some (.pl, .bl (!decide (a ∈ xs))) := by
  rw [Lv.n_ninT h1 (by rw [okL_map, List.all_eq_true]; exact h2), inD_ap k.ap]
theorem Kind.lst {α : Type} {f : α → D} (k : Kind f) : Kind fun a : List α => D.lst (a.map f) := ⟨fun a => by rw [nbD]; exact nbL_map fun x _ => k.nb x, fun a b e => by injection e with e; exact (List.map_inj_right (fun x y h => k.inj x y h)).mp e⟩
theorem Kind.tup {α : Type} {f : α → D} (k : Kind f) : Kind fun a : List α => D.tup (a.map f) := ⟨fun a => by rw [nbD]; exact nbL_map fun x _ => k.nb x, fun a b e => by injection e with e; exact (List.map_inj_right (fun x y h => k.inj x y h)).mp e⟩
theorem Kind.n_eqL {α : Type} [DecidableEq α] {f : α → D} (k : Kind f) {xs ys : List α} (h1 : ∀ x ∈ xs, ok 19 (f x) = true) (h2 : ∀ x ∈ ys, ok 19 (f x) = true) : eqF (.lst (xs.map f)) (.lst (ys.map f)) = some (.pl, .bl (decide (xs = ys))) := by
  rw [n_eqD cpd_l (by rw [ok_lst, okL_map, List.all_eq_true]; exact h1) (by rw [ok_lst, okL_map, List.all_eq_true]; exact h2), k.lst.ap.dec]
theorem Kind.n_neL {α : Type} [DecidableEq α] {f : α → D} (k : Kind f) {xs ys : List α} (h1 : ∀ x ∈ xs, ok 19 (f x) = true) (h2 : ∀ x ∈ ys, ok 19 (f x) = true) : neF (.lst (xs.map f)) (.lst (ys.map f)) = some (.pl, .bl (!decide (xs = ys))) := by
  rw [n_neD cpd_l (by rw [ok_lst, okL_map, List.all_eq_true]; exact h1) (by rw [ok_lst, okL_map, List.all_eq_true]; exact h2), k.lst.ap.dec]
theorem Kind.n_eqT {α : Type} [DecidableEq α] {f : α → D} (k : Kind f) {xs ys : List α} (h1 : ∀ x ∈ xs, ok 19 (f x) = true) (h2 : ∀ x ∈ ys, ok 19 (f x) = true) : eqF (.tup (xs.map f)) (.tup (ys.map f)) = some (.pl, .bl (decide (xs = ys))) := by
  rw [n_eqD cpd_t (by rw [ok_tup, okL_map, List.all_eq_true]; exact h1) (by rw [ok_tup, okL_map, List.all_eq_true]; exact h2), k.tup.ap.dec]
theorem Kind.n_neT {α : Type} [DecidableEq α] {f : α → D} (k : Kind f) {xs ys : List α} (h1 : ∀ x ∈ xs, ok 19 (f x) = true) (h2 : ∀ x ∈ ys, ok 19 (f x) = true) : neF (.tup (xs.map f)) (.tup (ys.map f)) = some (.pl, .bl (!decide (xs = ys))) := by
  rw [n_neD cpd_t (by rw [ok_tup, okL_map, List.all_eq_true]; exact h1) (by rw [ok_tup, okL_map, List.all_eq_true]; exact h2), k.tup.ap.dec]
theorem kind_str : Kind D.str := ⟨fun _ => rfl, fun a b e => by injection e⟩
theorem kind_int : Kind D.int := ⟨fun _ => rfl, fun a b e => by injection e⟩
end Lv

namespace Lv
open PySem L2
open Classical
theorem y_isiO {K : PySem.W.Frag} {C B : Addr} {fs : List (Str × D)} {b : Bool} (h1 : Ic K C) (h2 : PySem.W.kitOne K (.ref C) (.ref B) = some b) : isiF K [.obj C fs, .any (.ref B)] = some (.pl, .bl b) := by
  show (if _ then _ else _) = _
  rw [if_pos h1, h2]
  rfl
theorem find_app {α : Type} {p : α → Bool} {x : α} {r : List α} (hx : p x = true) : ∀ {l : List α}, (∀ y ∈ l, p y = false) → (l ++ x :: r).find? p = some x
  | [], _ => by rw [List.nil_append, List.find?_cons, hx]
  | y :: l, h => by
    rw [List.cons_append, List.find?_cons, h y List.mem_cons_self]
    exact find_app hx fun z hz => h z (List.mem_cons_of_mem _ hz)
end Lv

/-! for x in reversed(..) -/
namespace Lv
open PySem L2 PyProof.Rows
open Evl (Ex)
open Classical
theorem pi_revK (K : PySem.W.Frag) {X : Cx} {tg e : Expr} {te : TE} {p pos : Pos} (hg : Gl X "reversed") (hm : X.mg "reversed" = none) (he : PE X e te) (hK : X.K = K := by rfl) (hs : starEach [e] X.env = (false, eval e X.env) :: starEach [] X.env := by rfl) : PI X tg (.Call (.Name "reversed" p) [e] [] pos) (RT.iRevA K te) := by
  subst hK
  exact RT.pi_revA hg hm he hs
section
variable {K : PySem.W.Frag} {G G0 G1 G2 G3 H H0 H1 H2 H3 : Hp} {ρ ρ1 : Ro} {cs cs' xs : Cs} {ta tb te : TE} {d d' e x y z : D} {W : WX} {bs : List Addr} {ε : Xe} {A : FE} {as : Nat → Addr} {φ φ' : Fs} {M : FS} {P : Po} {w0 : World}
theorem ei_revL {ds : List D} (h : Ev K te ρ cs (.lst ds)) : EvI K (RT.iRevA K te) ρ cs [] ds.reverse := fun G H σ w e R q => h G H σ w e _ fun v G2 H2 n r => by
  cases r with
  | @lst a us _ ha ra =>
    have hsq : ∀ {H3 : Hp}, Ex G2 H3 → SqL K H3 a us := fun {H3} x => .inl (.inl (x _ _ ha))
    have hl : us.length = ds.length := ra.length
    refine ⟨a, us, rfl, .inl ⟨hsq n.s, q _ G2 H2 n no_src ⟨fun i d G3 H3 cs3 hd x w3 _ => ?_, fun i G3 H3 cs3 hi x w3 _ => ?_⟩⟩⟩
    · have hi : i < ds.length := by
        have := (List.getElem?_eq_some_iff.mp hd).1
        rw [List.length_reverse] at this
        exact this
      rw [List.getElem?_reverse hi] at hd
      obtain ⟨u, hu, ru⟩ := ra.get hd
      have hL : SqL K H3 a us := hsq (x.trans w3.sub)
      rw [← hl] at hu
      refine ⟨⟨by omega, us, u, hL, hu⟩, fun y H' hy => ?_⟩
      obtain ⟨rfl, hy⟩ := hy
      cases (hy _ hL).symm.trans hu
      exact ⟨G3, Nx.refl w3.sub, ru.mono x⟩
    · rw [List.length_reverse] at hi
      show us.length ≤ i
      omega
theorem ei_revT {ds : List D} (h : Ev K te ρ cs (.tup ds)) : EvI K (RT.iRevA K te) ρ cs [] ds.reverse := fun G H σ w e R q => h G H σ w e _ fun v G2 H2 n r => by
  cases r with
  | @tup a us _ ha ra =>
    have hsq : ∀ {H3 : Hp}, Ex G2 H3 → SqT K H3 a us := fun {H3} x => Evl.ex_t x ha.sq
    have hl : us.length = ds.length := ra.length
    refine ⟨a, us, rfl, .inr ⟨hsq n.s, q _ G2 H2 n no_src ⟨fun i d G3 H3 cs3 hd x w3 _ => ?_, fun i G3 H3 cs3 hi x w3 _ => ?_⟩⟩⟩
    · have hi : i < ds.length := by
        have := (List.getElem?_eq_some_iff.mp hd).1
        rw [List.length_reverse] at this
        exact this
      rw [List.getElem?_reverse hi] at hd
      obtain ⟨u, hu, ru⟩ := ra.get hd
      have hL : SqT K H3 a us := hsq (x.trans w3.sub)
      rw [← hl] at hu
      refine ⟨⟨by omega, us, u, hL, hu⟩, fun y H' hy => ?_⟩
      obtain ⟨rfl, hy⟩ := hy
      cases (hy _ hL).symm.trans hu
      exact ⟨G3, Nx.refl w3.sub, ru.mono x⟩
    · rw [List.length_reverse] at hi
      show us.length ≤ i
      omega
def revR (r : Option Rs) : Option Ri := match r with
  | some (.ok k d) => if k.fz = true then (itsD d).map fun ds => .ok ds.reverse none else none
  | some (.ex c f) => some (.ex c f)
  | none => none
def iRevF (a : FE) : FI := fun φ => revR (a φ)
theorem if_rev (ha : EFb K W bs ε te A) : IF K W bs ε (RT.iRevA K te) (iRevF A) := fun bo as xs φ r xo h => by
  unfold iRevF revR at h
  split at h
  · rename_i k d e
    split at h
    · rename_i hk
      cases d with
      | lst ds => cases h; exact .inl ⟨rfl, ei_revL ((ha bo as xs φ _ xo e).ev hk)⟩
      | tup ds => cases h; exact .inl ⟨rfl, ei_revT ((ha bo as xs φ _ xo e).ev hk)⟩
      | _ => simp [itsD] at h
    · cases h
  · rename_i c f e
    cases h
    exact fun G H σ w en R q => ha bo as xs φ _ xo e G H σ w en _ q
  · cases h
theorem y_iRev : iRevF A φ = revR (A φ) := rfl
theorem n_revL {k : Kd} {ds : List D} (hk : k.fz = true) : revR (some (.ok k (.lst ds))) = some (.ok ds.reverse none) := by
  cases k <;> first | rfl | cases hk
theorem n_revT {k : Kd} {ds : List D} (hk : k.fz = true) : revR (some (.ok k (.tup ds))) = some (.ok ds.reverse none) := by
  cases k <;> first | rfl | cases hk
def rvR (i : Nat) (φ : Fs) (o : Option D) : Option Br := match o with
  | some (.lst ds) => some (.nx (putCell φ i (.lst ds.reverse)))
  | _ => none
theorem y_rever {i : Nat} : fRever i φ = rvR i φ (cellOf φ i) := by
  unfold fRever rvR
  rfl
theorem y_rvR {i : Nat} {ds : List D} : rvR i φ (some (.lst ds)) = some (.nx (putCell φ i (.lst ds.reverse))) := rfl
theorem y_brI1 {C : Addr} {fs : List (Str × D)} : brI C (.nx (.bw (.obj C fs) :: φ)) = some (.ret (.obj C fs)) := by
  unfold brI
  simp only [List.getElem?_cons_zero]
  exact if_pos rfl
theorem y_brI2 {C c : Addr} {v : Value} {f : Option (List (Str × D))} : brI C (.ex v f φ) = some (.exc v f) := rfl
theorem y_neg1 {a : FE} {p : Int} {k : Kd} (h : a φ = some (.ok k (.int p))) : fNeg a φ = some (.ok .pl (.int (-p))) := by
  rw [x_neg, h]
  rfl
theorem n_last {ds : List D} {x : D} : ixF (.lst (ds ++ [x])) (.int (-1)) = some (.pl, x) := by
  rw [x_ix_l]
  have : atI (ds ++ [x]) (-1) = some x := by
    have e : ixN (ds ++ [x]).length (-1) = some ds.length := by
      unfold ixN
      rw [if_neg (by omega), if_pos (by rw [List.length_append, List.length_singleton]; omega), List.length_append, List.length_singleton]
      congr 1
      omega
    unfold atI
    rw [e]
    simp
  rw [this]
  rfl
theorem n_any {bs : List Bool} : anyF [.lst (bs.map D.bl)] = some (.pl, .bl (bs.any id)) := by
  show (blsF _).map _ = _
  rw [blsF_map]
  rfl
theorem n_all {bs : List Bool} : allF [.lst (bs.map D.bl)] = some (.pl, .bl (bs.all id)) := by
  show (blsF _).map _ = _
  rw [blsF_map]
  rfl
theorem forGo_allany {gg : FG} {b : FS} {all all' : List D} : ∀ {ds : List D} {φ : Fs}, forGo gg b all none ds φ = forGo gg b all' none ds φ
  | [], φ => rfl
  | d :: ds, φ => by
    rw [forGo_cons, forGo_cons]
    cases gg d φ with
    | none => rfl
    | some φ1 =>
      simp only
      cases hb : b φ1 with
      | none => rfl
      | some r =>
        cases r with
        | nx φ2 => exact forGo_allany
        | ct φ2 => exact forGo_allany
        | _ => rfl
end
end Lv

/-! is, is not of truth values -/
namespace Lv
open PySem L2
open Classical
def uIsB : R2 := fun x y H Q => ∃ a b, x = .bl a ∧ y = .bl b ∧ Q (.bl (decide (a = b))) H
def uIsNotB : R2 := fun x y H Q => ∃ a b, x = .bl a ∧ y = .bl b ∧ Q (.bl (!decide (a = b))) H
theorem op_uIsB {X : Cx} : OpR X (compareOp .Is) uIsB := by
  have := op_is_bl (X := X)
  exact this
theorem op_uIsNotB {X : Cx} : OpR X (compareOp .IsNot) uIsNotB := by
  have := op_isnot_bl (X := X)
  exact this
section
variable {K : PySem.W.Frag} {cs : Cs}
def isBF (x y : D) : Option (Kd × D) := match x, y with
  | .bl a, .bl b => some (.pl, .bl (decide (a = b)))
  | _, _ => none
def isnBF (x y : D) : Option (Kd × D) := match x, y with
  | .bl a, .bl b => some (.pl, .bl (!decide (a = b)))
  | _, _ => none
theorem opd_isB {a b : Bool} : OpD K uIsB cs (.bl a) (.bl b) (.bl (decide (a = b))) := fun G H vx vy w rx ry Q q => ⟨a, b, rx.bl w, ry.bl w, q _ G H (Nx.refl w.sub) (.bl _)⟩
theorem opd_isNB {a b : Bool} : OpD K uIsNotB cs (.bl a) (.bl b) (.bl (!decide (a = b))) := fun G H vx vy w rx ry Q q => ⟨a, b, rx.bl w, ry.bl w, q _ G H (Nx.refl w.sub) (.bl _)⟩
theorem of_isB : OpF K uIsB isBF := fun cs x y k z h => by
  unfold isBF at h
  split at h
  · cases h; exact .inl ⟨rfl, opd_isB⟩
  · cases h
theorem of_isnB : OpF K uIsNotB isnBF := fun cs x y k z h => by
  unfold isnBF at h
  split at h
  · cases h; exact .inl ⟨rfl, opd_isNB⟩
  · cases h
theorem n_isB {a b : Bool} : isBF (.bl a) (.bl b) = some (.pl, .bl (decide (a = b))) := rfl
theorem n_isnB {a b : Bool} : isnBF (.bl a) (.bl b) = some (.pl, .bl (!decide (a = b))) := rfl
end
end Lv

/-! the second walk of a comprehension -/
namespace Lv
open PySem L2
open Classical
theorem lc2_all {α : Type} {gg g1 : FG} {c c1 el : FE} {i1 : FI} {vs1 : List Nat} {m : Nat} {φ φ1 : Fs} {d : D} {xs : List α} {enc v : α → D} (hg : gg d φ = some φ1) (hc : okB (c φ1) = some true) (hi : i1 φ1 = some (.ok (xs.map enc) none)) (hl : xs.length ≤ m) (hx : ∀ x ∈ xs, lc1 g1 c1 el (wipeS φ1 vs1) (enc x) = some (some (v x))) : lc2 gg c i1 g1 c1 el vs1 m φ d = some (xs.map v) := by
  rw [lc2_u, hg]
  simp only [hc, hi, List.length_map, hl, if_true]
  exact lcGo_map hx
theorem lc2_filter {α : Type} {gg g1 : FG} {c c1 el : FE} {i1 : FI} {vs1 : List Nat} {m : Nat} {φ φ1 : Fs} {d : D} {xs : List α} {enc v : α → D} {p : α → Bool} (hg : gg d φ = some φ1) (hc : okB (c φ1) = some true) (hi : i1 φ1 = some (.ok (xs.map enc) none)) (hl : xs.length ≤ m) (hx : ∀ x ∈ xs, lc1 g1 c1 el (wipeS φ1 vs1) (enc x) = some (if p x = true then some (v x) else none)) : lc2 gg c i1 g1 c1 el vs1 m φ d = some ((xs.filter p).map v) := by
  rw [lc2_u, hg]
  simp only [hc, hi, List.length_map, hl, if_true]
  exact lcGo_filter hx
end Lv

/-! x = f(..), a new list or something else -/
namespace Lv
open PySem L2
open Classical
section
variable {K : PySem.W.Frag} {W : WX} {bs : List Addr} {ε : Xe} {te : TE} {A : FE} {φ : Fs} {i : Nat} {d : D}
def fSetE (i : Nat) (a : FE) : FS := fun φ => match a φ with
  | some (.ok .nw _) => fSetN i a φ
  | _ => fSet i a φ
theorem sf_setE (ha : EFb K W bs ε te A) : SF K W bs ε (tAsg te (gName i)) (fSetE i A) := fun bo xs φ r ρ cs p h => by
  unfold fSetE at h
  split at h
  · exact sf_setN ha bo xs φ r ρ cs p h
  · exact sf_set ha bo xs φ r ρ cs p h
def setER (i : Nat) (φ : Fs) (r : Option Rs) : Option Br := match r with
  | some (.ok .nw d) => some (.nx (φ.set i (.ow d)))
  | some (.ok k d) => if k.fz = true then some (.nx (φ.set i (.pl d))) else none
  | some (.ex c f) => some (.ex c f φ)
  | none => none
theorem y_setE {a : FE} : fSetE i a φ = setER i φ (a φ) := by
  unfold fSetE setER
  cases h : a φ with
  | none => simp only [x_set, h]
  | some r =>
    cases r with
    | ex c f => simp only [x_set, h]
    | ok k d => cases k <;> simp only [x_set, x_setN, h]
theorem y_setE1 : setER i φ (some (.ok .nw d)) = some (.nx (φ.set i (.ow d))) := rfl
theorem y_setE2 : setER i φ (some (.ok .pl d)) = some (.nx (φ.set i (.pl d))) := rfl
theorem y_setE3 {c : Value} {f : Option (List (Str × D))} : setER i φ (some (.ex c f)) = some (.ex c f φ) := rfl
end
end Lv

/-! a set of tuples of ints: asked whether a tuple is in it -/
namespace Lv
open PySem PySem.Spec PyProof.Rows L2
section
variable {P : Program} {w : World} {A : Around} {E : Value → Shared → Prop} {s : Shared} {a : Addr} {L : List (Addr × List Int)} {es : Array (Int × Value)} {ep : Nat} {t : SetTable}
/-- the c-th stand of the way of a hash -/
abbrev pw (t : SetTable) (h : Int) (c : Nat) : SetTable.Probe := nth t.mask (runAt t.mask (SetTable.bits h % (t.mask + 1)) (SetTable.bits h)) c
theorem dm_nth (m : Nat) : ∀ (n : Nat) (p : SetTable.Probe), p.dummy = none → (nth m p n).dummy = none
  | 0, _, h => h
  | n + 1, p, h => dm_nth m n (adv m p) (by unfold adv; split <;> exact h)
theorem look_from (T : SetTR P w s.heap a L es ep t) {b : Addr} {ns : List Int} (hb : IsT P w s.heap ns b) (hu : A.units < cLine) {K : Nat} (hf : K < 10 * SetTable.turns t.mask)
    (ke : way t.mask (thash P w ns) K ∉ t.place.toList) (kb : ∀ c, c < K → way t.mask (thash P w ns) c ∈ t.place.toList) {Q : SetFound → Shared → Prop}
    (yes : ns ∈ L.map (·.2) → ∀ i, Q (.there (some i)) s) (no : ns ∉ L.map (·.2) → Q (.free (way t.mask (thash P w ns) K) false) s) :
    ∀ (n c : Nat) (st : Option SetTable.Probe), st.getD (t.probeStart (thash P w ns)) = pw t (thash P w ns) c → c ≤ K → K - c < n →
      (∀ (i : Nat) p, L[i]? = some p → p.2 = ns → ∃ d, c ≤ d ∧ d < K ∧ t.place.toList[i]? = some (way t.mask (thash P w ns) d)) →
      wpAny (model P w) A (setSearchFrom a (.ref b) (thash P w ns) false n st) Q E s
  | 0, c, st, _, _, hn, _ => absurd hn (Nat.not_lt_zero _)
  | n + 1, c, st, hs, hc, hn, hr => by
    obtain ⟨o, og, ox, od⟩ := T.ob
    have hfit := T.fits
    rw [setSearchFrom_succ]
    refine wpAny_bind (wpAny_setState_of og od hfit ?_)
    simp only
    refine wp_if_neg T.gw ?_
    try refine wpAny_bind (wpAny_pure ?_)
    have j0 : ∀ q, nth t.mask (pw t (thash P w ns) c) q = pw t (thash P w ns) (c + q) := fun q => (nth_add t.mask c _ q).symm
    have j1 : ∀ q, (nth t.mask (pw t (thash P w ns) c) q).j = way t.mask (thash P w ns) (c + q) := fun q => congrArg SetTable.Probe.j (j0 q)
    have hat : ∀ (i : Nat) p, L[i]? = some p → ((es[i]?.map (·.1)).getD 0) = thash P w p.2 := fun i p hp => by rw [T.entry hp]; rfl
    have sp := go_spec t T.tab.ris T.tab.dm (fun i => (es[i]?.map (·.1)).getD 0) (thash P w ns) (10 * SetTable.turns t.mask) (K - c) (pw t (thash P w ns) c) (dm_nth _ c _ rfl) (by omega)
      (fun q hq => by rw [j1]; exact kb (c + q) (by omega)) (by rw [j1, show c + (K - c) = K by omega]; exact ke)
    rcases sp with ⟨q, i, hq, hi, _, hno, hgo⟩ | ⟨hno, hgo⟩
    · have hgo2 : t.probe (fun i => (es[i]?.map (·.1)).getD 0) (thash P w ns) (st.getD (t.probeStart (thash P w ns))) = some (.candidate (way t.mask (thash P w ns) (c + q)) i (pw t (thash P w ns) (c + (q + 1)))) := by
        rw [hs]
        refine Eq.trans hgo ?_
        rw [j1, j0]
      rw [hgo2]
      simp only
      rw [j1] at hi
      have hlt : i < L.length := by
        have h1 := (List.getElem?_eq_some_iff.mp hi).1
        have h2 := T.tab.sz
        rw [List.length_map] at h2
        rw [Array.length_toList, h2] at h1
        exact h1
      obtain ⟨p, hp⟩ : ∃ p, L[i]? = some p := ⟨L[i], List.getElem?_eq_getElem hlt⟩
      have pm := List.mem_of_getElem? hp
      have hsl := slot_live T.tab.ris hi
      have go : wpAny (model P w) A (searchRest a (.ref b) (thash P w ns) false n es t (way t.mask (thash P w ns) (c + q)) i (pw t (thash P w ns) (c + (q + 1)))) Q E s := by
        unfold searchRest
        rw [T.entry hp]
        simp only
        refine wpAny_bind (wpAny_holding (wpAny_eqBool_tuple hu (T.tup p pm) hb ?_))
        refine wpAny_bind (wpAny_setState_of og od hfit ?_)
        simp only [Bool.false_and]
        refine wp_if_neg (by decide) ?_
        try refine wpAny_bind (wpAny_pure ?_)
        rw [sameMem]
        simp only [if_true, hsl, T.entry hp]
        refine wpAny_bind (wpAny_isSame_ref_self (wpAny_bind (wpAny_pure ?_)))
        simp only [if_true]
        by_cases e : p.2 = ns
        · refine wp_if_pos (by rw [decide_eq_true e]) (wpAny_pure (yes ?_ i))
          exact List.mem_map.mpr ⟨p, pm, e⟩
        · refine wp_if_neg (by rw [decide_eq_false e]; decide) ?_
          refine look_from T hb hu hf ke kb yes no n (c + (q + 1)) _ rfl (by omega) (by omega) fun i' p' h' e' => ?_
          obtain ⟨d, d1, d2, d3⟩ := hr i' p' h' e'
          refine ⟨d, ?_, d2, d3⟩
          rcases Nat.lt_trichotomy d (c + q) with z | z | z
          · refine absurd ?_ (hno (d - c) i' (by omega) (by rw [j1, show c + (d - c) = d by omega]; exact d3))
            show ((es[i']?.map (·.1)).getD 0) = _
            rw [hat i' p' h', e']
          · subst z
            have s2 := slot_live T.tab.ris d3
            rw [hsl] at s2
            injection s2 with s2
            rw [← s2, hp] at h'
            injection h' with h'
            exact absurd (h' ▸ e') e
          · omega
      by_cases hl : t.led = true
      · refine wp_if_neg (by rw [hl]; decide) ?_
        try refine wpAny_bind (wpAny_pure ?_)
        exact go
      · refine wp_if_pos (by rw [Bool.not_eq_true] at hl; rw [hl]; rfl) ?_
        refine wpAny_bind (seen_tup hb (fun y hy => ?_) ?_)
        · obtain ⟨e, he, ee⟩ := List.mem_map.mp hy
          have m1 : e ∈ es.toList := by
            have := (show e ∈ es ∧ _ by simpa using he).1
            simpa using this
          rw [T.rows] at m1
          obtain ⟨p2, m2, e2⟩ := List.mem_map.mp m1
          exact ⟨p2.2, p2.1, by rw [← ee, ← e2], T.tup p2 m2⟩
        · refine wp_if_neg Bool.false_ne_true ?_
          try refine wpAny_bind (wpAny_pure ?_)
          exact go
    · have hgo2 : t.probe (fun i => (es[i]?.map (·.1)).getD 0) (thash P w ns) (st.getD (t.probeStart (thash P w ns))) = some (.empty (way t.mask (thash P w ns) K) none) := by
        rw [hs]
        refine Eq.trans hgo ?_
        rw [j1, show c + (K - c) = K by omega]
      rw [hgo2]
      simp only
      refine wpAny_pure (no fun hm => ?_)
      obtain ⟨p0, m0, e0⟩ := List.mem_map.mp hm
      obtain ⟨i0, l0, g0⟩ := List.getElem_of_mem m0
      have h0 : L[i0]? = some p0 := by rw [List.getElem?_eq_getElem l0, g0]
      obtain ⟨d, d1, d2, d3⟩ := hr i0 p0 h0 e0
      refine hno (d - c) i0 (by omega) (by rw [j1, show c + (d - c) = d by omega]; exact d3) ?_
      show ((es[i0]?.map (·.1)).getD 0) = _
      rw [hat i0 p0 h0, e0]
theorem look_at (T : SetTR P w s.heap a L es ep t) {b : Addr} {ns : List Int} (hb : IsT P w s.heap ns b) (hu : A.units < cLine) {Q : Option Nat → Shared → Prop} (h : ∀ r : Option Nat, r.isSome = decide (ns ∈ L.map (·.2)) → Q r s) :
    wpAny (model P w) A (setFind a (.ref b) (thash P w ns)) Q E s := by
  obtain ⟨o, og, ox, od⟩ := T.ob
  have hroom := T.room
  obtain ⟨K, hf, ke, kb⟩ := T.tab.first (by rw [List.length_map]; omega) (thash P w ns)
  have hbig : K < 100000 := by
    have : 10 * SetTable.turns t.mask ≤ 1420 := by
      unfold SetTable.turns
      rcases T.tab.mok with e | e | e <;> omega
    omega
  have hfit := T.fits
  unfold setFind
  rw [show (100000 : Nat) = 99999 + 1 from rfl]
  unfold setFindIn
  refine wpAny_bind (wpAny_setState_of og od hfit ?_)
  simp only
  refine wp_if_neg (by simp [byScan, Value.scannable]) ?_
  try refine wpAny_bind (wpAny_pure ?_)
  unfold setSearch
  refine wpAny_bind (look_from T hb hu hf ke kb (fun hm i => ?_) (fun hm => ?_) 100000 0 none rfl (Nat.zero_le _) (by omega) fun i p hp hk => ?_)
  · exact wpAny_pure (h (some i) (by rw [decide_eq_true hm]; rfl))
  · exact wpAny_pure (h none (by rw [decide_eq_false hm]; rfl))
  · have hi : (L.map fun p => thash P w p.2)[i]? = some (thash P w ns) := by rw [List.getElem?_map, hp, ← hk]; rfl
    have hil : i < t.place.toList.length := by
      have h1 := (List.getElem?_eq_some_iff.mp hp).1
      have h2 := T.tab.sz
      rw [List.length_map] at h2
      rw [Array.length_toList, h2]
      exact h1
    have hj := List.getElem?_eq_getElem hil
    obtain ⟨c, hc, e⟩ := T.tab.before ke hi hj
    exact ⟨c, Nat.zero_le _, hc, by rw [hj, e]⟩
end
end Lv

/-! a set of tuples of ints: `in`, add, {x} -/
namespace Lv
open PySem PySem.Spec PyProof.Rows L2
section
variable {P : Program} {w : World} {A : Around} {E : Value → Shared → Prop} {s : Shared} {a : Addr} {L : List (Addr × List Int)} {es : Array (Int × Value)} {ep : Nat} {t : SetTable}
theorem u_in1 (B : Around) : B.in1.units = B.units + 1 := rfl
theorem setTR_type (T : SetTR P w s.heap a L es ep t) : s.TypeIs (.ref a) "set" := by
  obtain ⟨o, og, ox, _⟩ := T.ob
  exact ⟨o, og, ox.1⟩
theorem setTR_nod (T : SetTR P w s.heap a L es ep t) : ∀ b, Value.ref a = .ref b → ∃ ob, s.heap.get? b = some ob ∧ ob.dict = none := by
  obtain ⟨o, og, ox, _⟩ := T.ob
  rintro b ⟨⟩
  exact ⟨o, og, ox.2.1⟩
theorem has_call (T : SetTR P w s.heap a L es ep t) {b : Addr} {ns : List Int} (hb : IsT P w s.heap ns b) (hu : A.units + 8 < cLine) {Q : Bool → Shared → Prop} (h : ∀ tk, Q (decide (ns ∈ L.map (·.2))) { s with toks := tk }) :
    wpAny (model P w) A (contains (.ref a) (.ref b)) Q E s := by
  have hT := setTR_type T
  unfold contains
  try with_reducible refine wpAny_holding ?_
  refine wpAny_bind (wpAny_specialOf hT F.slot_set_contains.lookup ?_)
  show wpAny _ _ (ite ((some (Value.builtin "set.__contains__") == some Value.none) = true) _ _) _ E s
  rw [if_neg (fun z => by rw [beq_builtin_none] at z; cases z)]
  refine wpAny_bind (wpAny_callSpecialUnlessNone?_slot (name := Str.ofString "__contains__") hT F.slot_set_contains (wpAny_call_entry F.slot_set_contains hT entry_set_contains ?_ (F.args_set_contains_2 _ _)))
  unfold Builtin.«frozenset.__contains__» Builtin.Frozenset.oneOther Builtin.Frozenset.addrOf Builtin.Frozenset.withSetAsKey setContains
  simp only [List.isEmpty_nil, bind_assoc]
  refine wpAny_bind (wpAny_pure (wpAny_bind (wpAny_pure (wpAny_bind (wpAny_tryCatch (wpAny_holding (wpAny_bind (wpAny_pyHash_tuple ?_ hb ?_))))))))
  · simp only [u_in1]; omega
  · have T2 : SetTR P w ({ s with toks := s.toks + (ns.length + 1) } : Shared).heap a L es ep t := T
    refine wpAny_bind (look_at T2 hb (by simp only [u_in1]; omega) fun r hr => wpAny_pure ?_)
    show wpAny _ _ (ret (Value.bool r.isSome)) _ _ _
    rw [hr]
    exact wpAny_pure ⟨_, rfl, wpAny_truthy_bool (h _)⟩
theorem in_setT (T : SetTR P w s.heap a L es ep t) {b : Addr} {ns : List Int} (hb : IsT P w s.heap ns b) (hu : A.units + 8 < cLine) {Q : Value → Shared → Prop} (h : ∀ tk, Q (.bool (decide (ns ∈ L.map (·.2)))) { s with toks := tk }) :
    wpAny (model P w) A (compareOp .In (.ref b) (.ref a)) Q E s :=
  wpAny_bind (M := model P w) (has_call T hb hu fun tk => wpAny_pure (h tk))
theorem nin_setT (T : SetTR P w s.heap a L es ep t) {b : Addr} {ns : List Int} (hb : IsT P w s.heap ns b) (hu : A.units + 8 < cLine) {Q : Value → Shared → Prop} (h : ∀ tk, Q (.bool (!decide (ns ∈ L.map (·.2)))) { s with toks := tk }) :
    wpAny (model P w) A (compareOp .NotIn (.ref b) (.ref a)) Q E s :=
  wpAny_bind (M := model P w) (has_call T hb hu fun tk => wpAny_pure (h tk))
/-- what stands behind an add -/
def Added (P : Program) (w : World) (a : Addr) (L : List (Addr × List Int)) (b : Addr) (ns : List Int) (h h' : Heap) (L' : List (Addr × List Int)) : Prop :=
  Heap.SameBut a h h' ∧ (∃ es ep t, SetTR P w h' a L' es ep t) ∧ (ns ∈ L.map (·.2) → L' = L) ∧ (ns ∉ L.map (·.2) → L'.Perm ((b, ns) :: L))
theorem setAdd_T (T : SetTR P w s.heap a L es ep t) {b : Addr} {ns : List Int} (hb : IsT P w s.heap ns b) (hu : A.units + 2 < cLine) (hl : L.length + 1 < 64) {Q : Bool → Shared → Prop} (h : ∀ r h' tk L', Added P w a L b ns s.heap h' L' → Q r { s with heap := h', toks := tk }) :
    wpAny (model P w) A (setAdd a (.ref b)) Q E s := by
  unfold setAdd
  refine wpAny_holding (wpAny_bind (wpAny_pyHash_tuple (by omega) hb ?_))
  have T2 : SetTR P w ({ s with toks := s.toks + (ns.length + 1) } : Shared).heap a L es ep t := T
  exact add_at T2 hb (by omega) hl fun r h' L' es' ep' t' sb R c1 c2 => h r h' _ L' ⟨sb, ⟨es', ep', t', R⟩, c1, c2⟩
theorem call_addT (T : SetTR P w s.heap a L es ep t) {b : Addr} {ns : List Int} (hb : IsT P w s.heap ns b) (hu : A.units + 8 < cLine) (hl : L.length + 1 < 64) {Q : Value → Shared → Prop} (h : ∀ h' tk L', Added P w a L b ns s.heap h' L' → Q .none { s with heap := h', toks := tk }) :
    wpAny (model P w) A (call (.builtin "set.add") [.ref a, .ref b]) Q E s := by
  refine wpAny_call_entry F.slot_set_add (setTR_type T) F.entry_set_add ?_ (F.args_set_add_2 _ _)
  unfold Builtin.«set.add» Builtin.Frozenset.oneOther Builtin.Frozenset.addrOf
  simp only [List.isEmpty_nil, bind_assoc]
  refine wpAny_bind (wpAny_pure (wpAny_bind (wpAny_pure (wpAny_bind (setAdd_T T hb (by simp only [u_in1]; omega) hl fun r h' tk L' hA => ?_)))))
  show wpAny _ _ (ret Value.none) _ _ _
  exact wpAny_pure ⟨_, rfl, h h' tk L' hA⟩
/-- a new set's object -/
def newSo (w : World) : Obj := { cls := .type "set", dict := none, data := .set #[] 0 (.fresh 0 0 (!w.params.followText "set-order")) }
theorem newSet_T {Q : Value → Shared → Prop} (h : Q (.ref s.heap.objs.size) { s with heap := s.heap.push (newSo w) }) : wpAny (model P w) A (newSet (.type "set")) Q E s := by
  unfold newSet setsByText
  exact wpAny_bind (wpAny_bind (wpAny_askSetting (wpAny_pure (wpAny_bind (wpAny_alloc (wpAny_pure h))))))
/-- {x} -/
theorem display_one {tx : Sem Value} {b : Bool} {Q : Value → Shared → Prop}
    (h : wpAny (model P w) A tx (fun v s' => wpAny (model P w) A (setAdd s.heap.objs.size v) (fun _ s2 => Q (.ref s.heap.objs.size) s2) E s') E { s with heap := s.heap.push (newSo w) }) :
    wpAny (model P w) A (setDisplay .oneByOne b [(false, tx)]) Q E s := by
  unfold setDisplay
  rw [if_neg (by decide)]
  refine wpAny_bind (newSet_T ?_)
  show wpAny _ _ (holding [Value.ref s.heap.objs.size] _ >>= _) _ _ _
  refine wpAny_bind (wpAny_holding (wpAny_bind ?_))
  show wpAny _ _ (tx >>= fun v => holding [v] (pure []) >>= fun r => pure (v :: r)) _ _ _
  refine wpAny_bind (wpAny_mono h (fun v s1 h1 => ?_) fun _ _ z => z)
  refine wpAny_bind (wpAny_holding (wpAny_pure (wpAny_pure ?_)))
  refine wpAny_bind (wpAny_holding ?_)
  rw [List.forIn_cons]
  refine wpAny_bind (wpAny_bind (wpAny_bind (wpAny_mono h1 (fun r s2 h2 => wpAny_pure ?_) fun _ _ z => z)))
  show wpAny _ _ (forIn [] PUnit.unit _) _ _ _
  rw [List.forIn_nil]
  refine wpAny_pure ?_
  rw [if_neg (by decide)]
  refine wpAny_pure ?_
  show wpAny _ _ (forIn [] PUnit.unit _ >>= _) _ _ _
  rw [List.forIn_nil]
  exact wpAny_bind (wpAny_pure (wpAny_pure (wpAny_pure h2)))
end
end Lv

/-! sets of tuples of ints: the walk -/
namespace Lv
open PySem PySem.Spec PyProof.Rows L2
open Evl (Ex)
open Classical
theorem t0_any {P : Program} {w : World} {h : Heap} {a : Addr} {L : List (Addr × List Int)} (R : SetT0 P w h a L) : stP a w L h := fun _ => ⟨R.ex⟩
theorem st_ok {P : Program} {w : World} {H : Hp} {h : Heap} {a : Addr} {L : List (Addr × List Int)} (R : SetT0 P w h a L) : ObjOk P w H h a (.ext (stP a w L)) := by
  obtain ⟨es, ep, t, ⟨o, ho, r⟩, q⟩ := R.ex
  exact ⟨t0_any R, ⟨o, ho⟩, fun h1 h2 z k P' => by
    obtain ⟨es, ep, t, ⟨o, ho, r⟩, q⟩ := (z P').ex
    exact ⟨es, ep, t, ⟨o, k o ho, r⟩, q⟩⟩
/-- the set at a -/
def StAt (K : PySem.W.Frag) (w : World) (H : Hp) (a : Addr) (L : List (Addr × List Int)) : Prop := H a = some (.ext (stP a w L)) ∧ ∀ p ∈ L, SqT K H p.1 (p.2.map V.int)
def tSIn (K : PySem.W.Frag) (w : World) (neg : Bool) (ty td : TE) : TE := fun σ H Q => ty σ H fun y H1 => td σ H1 fun x H2 => ∃ a b L ns, x = .ref a ∧ y = .ref b ∧ StAt K w H2 a L ∧ SqT K H2 b (ns.map V.int) ∧ Q (.bl (if neg then !decide (ns ∈ L.map (·.2)) else decide (ns ∈ L.map (·.2)))) H2
def rSAd (K : PySem.W.Frag) (w : World) (x : V) (vs : List V) (H : Hp) (Q : VK) : Prop := ∃ a b L ns, x = .ref a ∧ vs = [.ref b] ∧ StAt K w H a L ∧ SqT K H b (ns.map V.int) ∧ L.length + 1 < 64 ∧ ∀ L', (ns ∈ L.map (·.2) → L' = L) → (ns ∉ L.map (·.2) → L'.Perm ((b, ns) :: L)) → Q .non (upd H a (.ext (stP a w L')))
def tSAdd (K : PySem.W.Frag) (w : World) (td : TE) (t : TA) : TE := fun σ H Q => td σ H fun x H1 => (∃ a L, x = .ref a ∧ H1 a = some (.ext (stP a w L))) ∧ t σ H1 fun vs H2 => rSAd K w x vs H2 Q
def tSet1 (K : PySem.W.Frag) (w : World) (ty : TE) : TE := fun σ H Q => ∀ a, H a = none → ty σ (upd H a (.ext (stP a w []))) fun y H2 => ∃ b ns, y = .ref b ∧ H2 a = some (.ext (stP a w [])) ∧ SqT K H2 b (ns.map V.int) ∧ ∀ L', L'.Perm [(b, ns)] → Q (.ref a) (upd H2 a (.ext (stP a w L')))
section
variable {X : Cx} {td ty : TE} {o e : Expr} {t : TA} {pos apos cpos : Pos}
theorem st_of {pins : List (Addr × Obj)} {σ : L2.St} {H : Hp} {s : Shared} {a : Addr} {L : List (Addr × List Int)} (I : L2.Inv X pins σ H s) (h : StAt X.K X.w H a L) : ∃ es ep t, SetTR X.prog X.w s.heap a L es ep t :=
  ((I.hok a _ h.1).1 X.prog).full fun p hp => I.isT (h.2 p hp)
theorem pc_sin (K : PySem.W.Frag) (w : World) (hu : X.A.units + 64 < cLine) (hi : PE X e ty) (ho : PE X o td) (hK : X.K = K := by rfl) (hw : X.w = w := by rfl) : PC X .In e o (tSIn K w false ty td) := by
  subst hK
  subst hw
  refine ⟨fun pins s σ H Q I h => thn (hi.run pins s σ H _ I h) fun iv s1 ⟨y, H1, I1, ry, q1⟩ => thn (ho.run pins s1 σ H1 _ I1 q1) fun u s2 ⟨x, H2, I2, rx, a, b, L, ns, ex, ey, g, hb, q2⟩ => ?_⟩
  subst ex
  subst ey
  cases rx
  cases ry
  obtain ⟨es, ep, tb, T⟩ := st_of I2 g
  exact in_setT T (I2.isT hb) (by omega) fun tk => ⟨.bl _, H2, I2.kept (t' := tk) fun _ _ z => z, rfl, q2⟩
theorem pc_snin (K : PySem.W.Frag) (w : World) (hu : X.A.units + 64 < cLine) (hi : PE X e ty) (ho : PE X o td) (hK : X.K = K := by rfl) (hw : X.w = w := by rfl) : PC X .NotIn e o (tSIn K w true ty td) := by
  subst hK
  subst hw
  refine ⟨fun pins s σ H Q I h => thn (hi.run pins s σ H _ I h) fun iv s1 ⟨y, H1, I1, ry, q1⟩ => thn (ho.run pins s1 σ H1 _ I1 q1) fun u s2 ⟨x, H2, I2, rx, a, b, L, ns, ex, ey, g, hb, q2⟩ => ?_⟩
  subst ex
  subst ey
  cases rx
  cases ry
  obtain ⟨es, ep, tb, T⟩ := st_of I2 g
  exact nin_setT T (I2.isT hb) (by omega) fun tk => ⟨.bl _, H2, I2.kept (t' := tk) fun _ _ z => z, rfl, q2⟩
theorem added_inv {pins : List (Addr × Obj)} {σ : L2.St} {H : Hp} {s : Shared} {a b : Addr} {L L' : List (Addr × List Int)} {ns : List Int} {h' : Heap} {tk : Nat} (I : L2.Inv X pins σ H s) (ha : H a = some (.ext (stP a X.w L))) (z : Added X.prog X.w a L b ns s.heap h' L') : L2.Inv X pins σ (upd H a (.ext (stP a X.w L'))) { s with heap := h', toks := tk } := by
  obtain ⟨sb, ⟨es, ep, tb, T⟩, _, _⟩ := z
  obtain ⟨ob, hob, _⟩ := T.ob
  exact I.write (x := a) (e := a) (t' := tk) (by rw [ha]; trivial) (.inl rfl) (fun c u hc he => (sb.2 c hc).trans he) ⟨ob, hob⟩ (st_ok T.t0)
theorem pe_sadd (K : PySem.W.Frag) (w : World) (hu : X.A.units + 64 < cLine) (ho : PE X o td) (ha : PA X [e] t) (hb1 : attributeBase o "add" X.env (eval o X.env) = eval o X.env := by rfl) (hf1 : ((backTo cpos (starEach [e] X.env)).all (fun x => !x.1) && (backToKw cpos (keywordEach [] X.env)).all (fun x => x.1.isSome) && decide (([e] : List Expr).length + ([] : List Keyword).length + (if ([] : List Keyword).isEmpty then 0 else 1) < 30)) = true := by rfl) (hl1 : (apos.endLine == cpos.line) = true := by rfl)
    (hs1 : starEach [e] X.env = (false, eval e X.env) :: starEach [] X.env := by rfl) (hp1 : (backTo cpos (starEach [] X.env)).any (·.1) = false := by rfl) (hK : X.K = K := by rfl) (hw : X.w = w := by rfl) : PE X (.Call (.Attribute o "add" apos) [e] [] cpos) (tSAdd K w td t) := by
  subst hK
  subst hw
  refine ⟨fun pins s σ H Q I h => wpAny_Call_method_late hb1 hf1 hl1 rfl (thn (ho.run pins s σ H _ I h) fun v s1 ⟨x, H1, I1, r1, ⟨a, L, ex, hka⟩, q1⟩ => ?_)⟩
  subst ex
  cases r1
  obtain ⟨es, ep, tb, ⟨ob, hob, hex, hd⟩, _⟩ := ((I1.hok a _ hka).1 X.prog).ex
  refine ⟨"set", "set.add", F.plainAttrs_set, F.slot_set_add, F.type_set_add, ⟨ob, hob, hex.1⟩, ?_, ?_⟩
  · rintro c ⟨⟩
    exact ⟨ob, hob, hex.2.1⟩
  have hA := ha.run cpos pins s1 σ H1 _ I1 q1
  rw [hs1] at hA ⊢
  refine Calls.callWith_builtin (by rfl) (Calls.evalArgs_plain (thn hA fun us s2 ⟨vs, H2, I2, r2, a', b, L2, ns, ea, ev, g, hb, hl, q2⟩ => ?_))
  cases ea
  subst ev
  cases r2 with
  | cons ry rt =>
    cases rt
    cases ry
    obtain ⟨es, ep, tb, T⟩ := st_of I2 g
    refine call_addT T (I2.isT hb) (by omega) hl fun h' tk L' z => ⟨.non, _, added_inv I2 g.1 z, rfl, q2 L' z.2.2.1 z.2.2.2⟩
theorem pe_set1 (K : PySem.W.Frag) (w : World) {cd : Value} (hcd : PySem.W.kdsCode K cd = true) (hu : X.A.units + 64 < cLine) (he : PE X e ty) (hs1 : starEach [e] X.env = (false, eval e X.env) :: starEach [] X.env := by rfl) (hc : X.env.code = cd := by rfl) (hK : X.K = K := by rfl) (hw : X.w = w := by rfl) : PE X (.Set [e] 0 pos) (tSet1 K w ty) := by
  subst hc
  subst hK
  subst hw
  refine ⟨fun pins s σ H Q I h => ?_⟩
  rw [arm_eval_Set]
  refine wpAny_bind (wpAny_standAt (wpAny_bind (PySem.W.kds_main I.kIn hcd fun b => ?_)))
  rw [hs1]
  have hn : H s.heap.objs.size = none := I.hok.fresh (Nat.le_refl _)
  have T0 : SetTR X.prog X.w (s.heap.push (newSo X.w)) s.heap.objs.size [] #[] 0 (.fresh 0 0 (!X.w.params.followText "set-order")) := setTR_fresh (Heap.get?_push_size _ rfl)
  have I0 : L2.Inv X pins σ (upd H s.heap.objs.size (.ext (stP s.heap.objs.size X.w []))) { s with heap := s.heap.push (newSo X.w) } := I.laid (a := s.heap.objs.size) (t' := s.toks) (fun _ _ q => Heap.get?_push_of_some _ q) (Nat.le_refl _) (st_ok T0.t0)
  refine display_one (tx := do let v ← eval e X.env; standAt pos; pure v) (wpAny_bind (thn (he.run pins _ σ _ _ I0 (h _ hn)) fun v s1 ⟨y, H2, I2, ry, b, ns, ey, h2, hb, q2⟩ => wpAny_bind (wpAny_standAt (wpAny_pure ?_))))
  subst ey
  cases ry
  obtain ⟨es, ep, tb, T⟩ := st_of I2 (L := []) ⟨h2, nofun⟩
  exact setAdd_T T (I2.isT hb) (by omega) (by decide) fun r h' tk L' z => ⟨.ref _, _, added_inv I2 h2 z, rfl, q2 L' (z.2.2.2 (by simp))⟩
end
end Lv

/-! F: sets of tuples of ints -/
namespace Lv
open PySem L2
open Evl (Ex)
open Classical
def intsD : List D → Option (List Int)
  | [] => some []
  | .int i :: ds => (intsD ds).map (i :: ·)
  | _ => none
theorem intsD_map : ∀ (ns : List Int), intsD (ns.map D.int) = some ns
  | [] => rfl
  | n :: ns => by rw [List.map_cons, intsD, intsD_map ns]; rfl
theorem intsD_some : ∀ {ds : List D} {ns : List Int}, intsD ds = some ns → ds = ns.map D.int
  | [], ns, h => by cases h; rfl
  | .int i :: ds, ns, h => by
    rw [intsD] at h
    cases hd : intsD ds with
    | none => rw [hd] at h; cases h
    | some ms =>
      rw [hd] at h
      cases h
      rw [intsD_some hd]
      rfl
  | .non :: _, _, h => by simp [intsD] at h
  | .bl _ :: _, _, h => by simp [intsD] at h
  | .str _ :: _, _, h => by simp [intsD] at h
  | .tup _ :: _, _, h => by simp [intsD] at h
  | .lst _ :: _, _, h => by simp [intsD] at h
  | .obj _ _ :: _, _, h => by simp [intsD] at h
  | .scr _ :: _, _, h => by simp [intsD] at h
  | .xdc _ :: _, _, h => by simp [intsD] at h
  | .dik _ :: _, _, h => by simp [intsD] at h
  | .dit _ :: _, _, h => by simp [intsD] at h
  | .dix _ _ :: _, _, h => by simp [intsD] at h
  | .sit _ _ :: _, _, h => by simp [intsD] at h
  | .any _ :: _, _, h => by simp [intsD] at h
theorem intT_inj {a b : List Int} (h : D.tup (a.map D.int) = D.tup (b.map D.int)) : a = b := by
  injection h with h
  exact (List.map_inj_right (fun x y e => by injection e)).mp h
section
variable {K : PySem.W.Frag} {G G0 G1 G2 G3 H H0 H1 H2 H3 : Hp} {ρ ρ1 : Ro} {cs cs' xs : Cs} {ta tb te tx td ty : TE} {d d' e x y z : D} {W : WX} {bs : List Addr} {ε : Xe} {A B : FE} {tr : TA} {as : Nat → Addr} {φ φ' : Fs} {P : Po} {w0 : World}
theorem repL_ints : ∀ {ns : List Int} {vs : List V}, RepL K G vs (ns.map D.int) → vs = ns.map V.int
  | [], _, .nil => rfl
  | n :: ns, _, .cons h r => by cases h; rw [repL_ints r]; rfl
theorem rep_intT {v : V} {ns : List Int} (s : Ex G H) (r : Rep K G v (.tup (ns.map D.int))) : ∃ b, v = .ref b ∧ SqT K H b (ns.map V.int) := by
  cases r with
  | tup h r => exact ⟨_, rfl, Evl.ex_t s (by rw [← repL_ints r]; exact h.sq)⟩
theorem repL_mapped {α : Type} {f : α → V} {g : α → D} : ∀ {L : List α}, RepL K G (L.map f) (L.map g) → ∀ p ∈ L, Rep K G (f p) (g p)
  | [], _, p, hp => by cases hp
  | q :: L, .cons h r, p, hp => by
    rcases List.mem_cons.mp hp with rfl | hp
    · exact h
    · exact repL_mapped r p hp
theorem repL_of {α : Type} {f : α → V} {g : α → D} : ∀ {L : List α}, (∀ p ∈ L, Rep K G (f p) (g p)) → RepL K G (L.map f) (L.map g)
  | [], _ => .nil
  | q :: L, h => .cons (h q List.mem_cons_self) (repL_of fun p hp => h p (List.mem_cons_of_mem _ hp))
theorem cell_set {a : Addr} {ds : List D} (s : Ex G H) (c : Cell K G H a (.sit w0 ds)) : ∃ L, StAt K w0 H a L ∧ (∀ x, x ∈ ds ↔ x ∈ L.map fun p => D.tup (p.2.map D.int)) ∧ L.length ≤ ds.length ∧ ∀ p ∈ L, Rep K G (.ref p.1) (D.tup (p.2.map D.int)) := by
  obtain ⟨L, h1, h2, h3, h4⟩ := c
  have h5 := repL_mapped h4
  refine ⟨L, ⟨h1, fun p hp => ?_⟩, h2, h3, h5⟩
  obtain ⟨b, e, hb⟩ := rep_intT s (h5 p hp)
  cases e
  exact hb
theorem mem_set {ds : List D} {L : List (Addr × List Int)} (h : ∀ x, x ∈ ds ↔ x ∈ L.map fun p => D.tup (p.2.map D.int)) (ns : List Int) : decide (ns ∈ L.map (·.2)) = decide (D.tup (ns.map D.int) ∈ ds) := by
  rw [decide_eq_decide, h, List.mem_map, List.mem_map]
  constructor
  · rintro ⟨p, hp, rfl⟩; exact ⟨p, hp, rfl⟩
  · rintro ⟨p, hp, e⟩; exact ⟨p, hp, intT_inj e⟩
theorem repC_set {v : V} {ds : List D} (w : Wl K G H cs) (r : RepC K G cs v (.sit w0 ds)) : ∃ a, v = .ref a ∧ Cell K G H a (.sit w0 ds) := by
  rcases r with r | ⟨a, e, c⟩
  · cases r
  · exact ⟨a, e, (w.cell _ c).2⟩
theorem ev_sin {neg : Bool} {ds : List D} {ns : List Int} (hy : Ev K ty ρ cs (.tup (ns.map D.int))) (hd : EvR K td ρ cs (.sit w0 ds)) : Ev K (tSIn K w0 neg ty td) ρ cs (.bl (if neg then !decide (D.tup (ns.map D.int) ∈ ds) else decide (D.tup (ns.map D.int) ∈ ds))) := fun G H σ w e Q q =>
  hy G H σ w e _ fun y G2 H2 n ry => hd G2 H2 σ (w.step n) (e.mono n.g) _ fun v G3 H3 n3 r => by
    obtain ⟨b, rfl, hb⟩ := rep_intT n3.s (ry.mono n3.g)
    obtain ⟨a, rfl, hc⟩ := repC_set ((w.step n).step n3) r
    obtain ⟨L, g, hm, _, _⟩ := cell_set n3.s hc
    refine ⟨a, b, L, ns, rfl, rfl, g, hb, ?_⟩
    rw [mem_set hm]
    exact q _ G3 H3 (n.trans n3) (.bl _)
/-- with one more -/
noncomputable def addS (ds : List D) (x : D) : List D := if x ∈ ds then ds else ds ++ [x]
theorem sv_sadd {a : Addr} {ds : List D} {ns : List Int} {cs : Cs} (hc : (a, .sit w0 ds) ∈ cs) (ho : Ev K td ρ cs (.any (.ref a))) (hy : EvA K tr ρ cs [.tup (ns.map D.int)]) (hz : ds.length + 1 < 64) (kk : P.nx ρ (setC a (.sit w0 (addS ds (.tup (ns.map D.int)))) cs)) :
    Sv K W bs (tDrop (tSAdd K w0 td tr)) ρ cs P := fun G0 H0 G H σ E r e o => ho G H σ r.wl e _ fun v G2 H2 n rv => by
  cases rv
  have r2 := r.step n
  obtain ⟨L2, hL2, _⟩ := (r2.wl.cell _ hc).2
  refine ⟨⟨a, L2, rfl, hL2⟩, hy G2 H2 σ r2.wl (e.mono n.g) _ fun vs G3 H3 n3 ry => ?_⟩
  have r3 := r2.step n3
  obtain ⟨L, g, hm, hlen, hre⟩ := cell_set n3.s (r3.wl.cell _ hc).2
  cases ry with
  | cons ry rt =>
    cases rt
    obtain ⟨b, rfl, hb⟩ := rep_intT n3.s ry
    refine ⟨a, b, L, ns, rfl, rfl, g, hb, by omega, fun L' c1 c2 => ?_⟩
    have hmm := mem_set hm ns
    refine o.nx G3 _ σ ρ _ (r3.write (d' := .sit w0 (addS ds (.tup (ns.map D.int)))) hc ?_) ((e.mono n.g).mono n3.g) kk
    by_cases hin : D.tup (ns.map D.int) ∈ ds
    · rw [decide_eq_true hin] at hmm
      rw [c1 (of_decide_eq_true hmm)]
      unfold addS
      rw [if_pos hin]
      exact ⟨L, upd_same, hm, hlen, repL_of hre⟩
    · rw [decide_eq_false hin] at hmm
      have pm := c2 (of_decide_eq_false hmm)
      unfold addS
      rw [if_neg hin]
      refine ⟨L', upd_same, fun x => ?_, ?_, repL_of fun p hp => ?_⟩
      · rw [List.mem_append, hm, List.mem_singleton, List.mem_map, List.mem_map]
        constructor
        · rintro (⟨p, hp, rfl⟩ | rfl)
          · exact ⟨p, pm.mem_iff.mpr (List.mem_cons_of_mem _ hp), rfl⟩
          · exact ⟨(b, ns), pm.mem_iff.mpr List.mem_cons_self, rfl⟩
        · rintro ⟨p, hp, rfl⟩
          rcases List.mem_cons.mp (pm.mem_iff.mp hp) with rfl | hp
          · exact .inr rfl
          · exact .inl ⟨p, hp, rfl⟩
      · rw [pm.length_eq, List.length_cons, List.length_append, List.length_singleton]
        omega
      · rcases List.mem_cons.mp (pm.mem_iff.mp hp) with rfl | hp
        · exact ry
        · exact hre p hp
theorem ed_set1 {ns : List Int} (h : Ev K ty ρ cs (.tup (ns.map D.int))) : EvD K (tSet1 K w0 ty) ρ cs (.sit w0 [.tup (ns.map D.int)]) := fun G H σ wl e Q q a ha => by
  have n0 : Nx G H G (upd H a (.ext (stP a w0 []))) := Nx.newc wl.sub ha
  have g0 : G a = none := Evl.fresh_back wl.sub ha
  refine h G _ σ (wl.step n0) (e.mono n0.g) _ fun v G2 H2 n2 r2 => ?_
  obtain ⟨b, rfl, hb⟩ := rep_intT n2.s r2
  have h2a : H2 a = some (.ext (stP a w0 [])) := n2.h _ _ upd_same
  have ga : G2 a = none := by
    cases hh : G2 a with
    | none => rfl
    | some o =>
      have := n2.f _ _ hh g0
      rw [upd_same] at this
      cases this
  refine ⟨b, ns, rfl, h2a, hb, fun L' pm => q a G2 _ ⟨n2.g, fun c o hc => ?_, fun c o hc => ?_, (n0.trans n2).f⟩ ha ga ⟨L', upd_same, fun x => ?_, ?_, repL_of fun p hp => ?_⟩⟩
  · rw [upd_ne (fun z => by subst z; rw [ha] at hc; cases hc)]
    exact (n0.trans n2).h _ _ hc
  · rw [upd_ne (fun z => by subst z; rw [ga] at hc; cases hc)]
    exact n2.s _ _ hc
  · rw [List.mem_singleton, List.mem_map]
    constructor
    · rintro rfl
      exact ⟨(b, ns), pm.mem_iff.mpr List.mem_cons_self, rfl⟩
    · rintro ⟨p, hp, rfl⟩
      rw [List.mem_singleton.mp (pm.mem_iff.mp hp)]
  · rw [pm.length_eq]
    exact Nat.le_refl _
  · rw [List.mem_singleton.mp (pm.mem_iff.mp hp)]
    exact r2
/-! the functions -/
noncomputable def sinR (w0 : World) (neg : Bool) (k : Kd) (x y : D) : Option Rs := match x, y with
  | .tup xs, .sit w1 ds => if k.fz = true ∧ w1 = w0 ∧ (intsD xs).isSome = true then some (.ok .pl (.bl (if neg then !decide (D.tup xs ∈ ds) else decide (D.tup xs ∈ ds)))) else none
  | _, _ => none
noncomputable def fSIn (w0 : World) (neg : Bool) (a b : FE) : FE := fun φ => rb (a φ) fun k x => rb (b φ) fun _ y => sinR w0 neg k x y
theorem ef_sin {neg : Bool} (ha : EF K W bs ε ta A) (hb : EF K W bs ε tb B) : EF K W bs ε (tSIn K w0 neg ta tb) (fSIn w0 neg A B) := fun as xs φ r xo h => by
  rcases rb_some h with ⟨c, g, e, rfl⟩ | ⟨kd, x, e, h3⟩
  · exact fun G H σ w en Q q => ha as xs φ _ xo e G H σ w en _ q
  rcases rb_some h3 with ⟨c, g, e2, rfl⟩ | ⟨kd2, y, e2, h4⟩
  · exact fun G H σ w en Q q => (ha as xs φ _ xo e).rd G H σ w en _ fun v G2 H2 n rv => hb as xs φ _ xo e2 G2 H2 σ (w.step n) (en.mono n.g) _ (getsM_step n q)
  clear h h3
  unfold sinR at h4
  split at h4
  · split at h4
    · rename_i hk
      obtain ⟨h1, rfl, h3⟩ := hk
      cases h4
      obtain ⟨ns, hns⟩ := Option.isSome_iff_exists.mp h3
      rw [intsD_some hns] at e ⊢
      exact (ev_sin ((ha as xs φ _ xo e).ev h1) (hb as xs φ _ xo e2).rd).m
    · cases h4
  · cases h4
noncomputable def saddR (w0 : World) (i : Nat) (φ : Fs) (o : Option D) (r : Option As) : Option Br := match o, r with
  | some (.sit w1 ds), some (.ok [(k, .tup xs)]) => if k.fz = true ∧ w1 = w0 ∧ (intsD xs).isSome = true ∧ ds.length + 1 < 64 then some (.nx (putCell φ i (.sit w0 (addS ds (.tup xs))))) else none
  | _, _ => none
noncomputable def fSAdd (w0 : World) (i : Nat) (a : FA) : FS := fun φ => saddR w0 i φ (cellOf φ i) (a φ)
theorem sf_sadd {i : Nat} {T : FA} (ha : AFb K W bs ε tr T) : SF K W bs ε (tDrop (tSAdd K w0 (tVar i) tr)) (fSAdd w0 i T) := fun bo xs φ r ρ cs p h => by
  unfold fSAdd saddR at h
  split at h
  · rename_i w1 ds k us hi hr
    split at h
    · rename_i hk
      obtain ⟨h1, rfl, h3, h4⟩ := hk
      cases h
      obtain ⟨ns, hns⟩ := Option.isSome_iff_exists.mp h3
      rw [intsD_some hns] at hr ⊢
      exact sv_pn p fun as xo => sv_sadd (cell_mem hi) (cell_ev hi) (EvAM.a (ha bo as xs φ _ xo hr) (by simp [h1])) h4 (PN.put xo hi)
    · cases h
  · cases h
def set1R (w0 : World) (i : Nat) (φ : Fs) (r : Option Rs) : Option Br := match r with
  | some (.ok k (.tup xs)) => if k.fz = true ∧ (intsD xs).isSome = true then some (.nx (φ.set i (.ow (.sit w0 [.tup xs])))) else none
  | _ => none
def fSet1 (w0 : World) (i : Nat) (a : FE) : FS := fun φ => set1R w0 i φ (a φ)
theorem sf_set1 {i : Nat} (ha : EFb K W bs ε te A) : SF K W bs ε (tAsg (tSet1 K w0 te) (gName i)) (fSet1 w0 i A) := fun bo xs φ r ρ cs p h => by
  unfold fSet1 set1R at h
  split at h
  · rename_i k us e
    split at h
    · rename_i hk
      obtain ⟨h1, h3⟩ := hk
      cases h
      obtain ⟨ns, hns⟩ := Option.isSome_iff_exists.mp h3
      rw [intsD_some hns] at e ⊢
      exact sv_pn p fun as xo => sv_setD (ed_set1 ((ha bo as xs φ _ xo e).ev h1)) fun a hb hc => PN.new (bo := bo) xo hb hc
    · cases h
  · cases h
/-! equations -/
theorem y_sin {neg : Bool} {a b : FE} : fSIn w0 neg a b φ = rb (a φ) fun k x => rb (b φ) fun _ y => sinR w0 neg k x y := rfl
theorem y_sadd {i : Nat} {T : FA} : fSAdd w0 i T φ = saddR w0 i φ (cellOf φ i) (T φ) := rfl
theorem y_set1 {i : Nat} {a : FE} : fSet1 w0 i a φ = set1R w0 i φ (a φ) := rfl
theorem n_sin {k : Kd} {us ds : List D} (hk : k.fz = true) (hi : (intsD us).isSome = true) : sinR w0 false k (.tup us) (.sit w0 ds) = some (.ok .pl (.bl (decide (D.tup us ∈ ds)))) := by
  show (if _ then _ else _) = _
  rw [if_pos ⟨hk, rfl, hi⟩]
  rfl
theorem n_snin {k : Kd} {us ds : List D} (hk : k.fz = true) (hi : (intsD us).isSome = true) : sinR w0 true k (.tup us) (.sit w0 ds) = some (.ok .pl (.bl (!decide (D.tup us ∈ ds)))) := by
  show (if _ then _ else _) = _
  rw [if_pos ⟨hk, rfl, hi⟩]
  rfl
theorem n_sadd {i : Nat} {k : Kd} {us ds : List D} (hk : k.fz = true) (hi : (intsD us).isSome = true) (hl : ds.length + 1 < 64) : saddR w0 i φ (some (.sit w0 ds)) (some (.ok [(k, .tup us)])) = some (.nx (putCell φ i (.sit w0 (addS ds (.tup us))))) := if_pos ⟨hk, rfl, hi, hl⟩
theorem n_set1 {i : Nat} {k : Kd} {us : List D} (hk : k.fz = true) (hi : (intsD us).isSome = true) : set1R w0 i φ (some (.ok k (.tup us))) = some (.nx (φ.set i (.ow (.sit w0 [.tup us])))) := if_pos ⟨hk, hi⟩
end
/-! a def whose code is known -/
theorem kds_of {K : PySem.W.Frag} {cd : Value} {q : Str} (h : PySem.W.codeIn K cd q = true) : PySem.W.kdsCode K cd = true := by
  unfold PySem.W.codeIn at h
  unfold PySem.W.kdsCode
  split at h
  · split at h
    · rename_i hl
      simp only [hl]
    · cases h
  · cases h
section
variable {P : Program} {w : World} {K : PySem.W.Frag} {mg : Str → Option Value} {base : Heap}
theorem fn_okFc {x qual : Str} {st : Stmt} {f : Addr} {fd : FuncData} {N ps : List Str} {k n : Nat} {b : FS} (F : FunU K x qual st f fd) (S : FnScope N ps (defScope st)) (hn : ps.length = n)
    (hbody : ∀ (cdv : Value) (hcd : PySem.W.kdsCode K cdv = true) (A' : Around) (outer : List PySem.Env) (s : Shared) (H : Hp) (E : XK), Room k (cxN P w K mg base N qual st f cdv A' outer s H E).A → L2N.Takes (cxN P w K mg base N qual st f cdv A' outer s H E) (Wd E) →
      PassesOwn (model P w) (cxN P w K mg base N qual st f cdv A' outer s H E).A (cxN P w K mg base N qual st f cdv A' outer s H E).env (cxN P w K mg base N qual st f cdv A' outer s H E).xe →
      ∃ t, PSs (cxN P w K mg base N qual st f cdv A' outer s H E) (defBody st) t ∧ ∀ ε, SF K (Wd E) [] ε t b) :
    FnOk P w K mg base (L2N.CX P w) (k + 1) f fd ps (spO K n (relF (runF N n b))) := by
  obtain ⟨oc, od, dV, kV, doc, pm, an, cdv, ct, osl, rfl, lk, hcd⟩ := F.ex
  refine fn_of lk hcd S (fun vs H Q E h => ?_) (fun A' outer s H vs Q E hr h => ?_)
  · obtain ⟨G, ds, o, _, r, h1, _⟩ := h
    rw [r.length, h1, hn]
  · obtain ⟨G, ds, o, hs, r, h1, h2, q⟩ := h
    obtain ⟨t, ht, hv⟩ := hbody cdv (kds_of hcd) A' outer s H E hr (L2N.takes_of rfl rfl rfl rfl) (passes_of rfl)
    exact ⟨t, ht, run_of hs r (sv_run (hv ⟨f, .ref f, none, fun _ => f⟩) h2) q⟩
end
end Lv

/-! while: step by step -/
namespace Lv
open PySem L2
open Classical
section
variable {c : FE} {b : FS} {φ φ2 : Fs} {k : Kd}
theorem wh_end (h : c φ = some (.ok k (.bl false))) : fWhile c b φ = some (.nx φ) := fWhile_of (n := 1) (by rw [whGo, h])
theorem wh_nx {r : Br} (h : c φ = some (.ok k (.bl true))) (hb : b φ = some (.nx φ2)) (h2 : fWhile c b φ2 = some r) : fWhile c b φ = some r := by
  obtain ⟨n, e⟩ := fWhile_some h2
  exact fWhile_of (n := n + 1) (by rw [whGo, h]; simp only [hb]; exact e)
theorem wh_ct {r : Br} (h : c φ = some (.ok k (.bl true))) (hb : b φ = some (.ct φ2)) (h2 : fWhile c b φ2 = some r) : fWhile c b φ = some r := by
  obtain ⟨n, e⟩ := fWhile_some h2
  exact fWhile_of (n := n + 1) (by rw [whGo, h]; simp only [hb]; exact e)
theorem wh_bk (h : c φ = some (.ok k (.bl true))) (hb : b φ = some (.bk φ2)) : fWhile c b φ = some (.nx φ2) := fWhile_of (n := 1) (by rw [whGo, h]; simp only [hb])
theorem wh_rt {o : Out} (h : c φ = some (.ok k (.bl true))) (hb : b φ = some (.rt o φ2)) : fWhile c b φ = some (.rt o φ2) := fWhile_of (n := 1) (by rw [whGo, h]; simp only [hb])
theorem wh_ex {v : Value} {f : Option (List (Str × D))} (h : c φ = some (.ok k (.bl true))) (hb : b φ = some (.ex v f φ2)) : fWhile c b φ = some (.ex v f φ2) := fWhile_of (n := 1) (by rw [whGo, h]; simp only [hb])
def auR (i : Nat) (g : Int → Int → Int) (φ : Fs) (s : Option Sl) (r : Option Rs) : Option Br := match s with
  | some (.pl (.int m)) => sb r φ fun d => match d with
    | .int n => some (.nx (φ.set i (.pl (.int (g m n)))))
    | _ => none
  | _ => none
theorem y_aug {i : Nat} {g : Int → Int → Int} {a : FE} : fAug i g a φ = auR i g φ (φ[i]?) (a φ) := by
  unfold fAug auR
  rfl
theorem n_aug {i p q : Nat} : auR i (fun a b => a + b) φ (some (.pl (.int p))) (some (.ok .pl (.int q))) = some (.nx (φ.set i (.pl (.int ((p + q : Nat) : Int))))) := rfl
end
end Lv

/-! xs[i] = e -/
namespace Lv
open PySem L2
open Evl (Ex)
open Classical
section
variable {K : PySem.W.Frag} {G G0 G1 G2 G3 H H0 H1 H2 H3 : Hp} {ρ ρ1 : Ro} {cs cs' xs : Cs} {ta tb te tx to ti : TE} {d d' e x y z : D} {W : WX} {bs : List Addr} {ε : Xe} {A B : FE} {as : Nat → Addr} {φ φ' : Fs} {P : Po}
theorem sv_lset {a : Addr} {ds : List D} {n : Nat} (hc : (a, .lst ds) ∈ cs) (hv : Ev K te ρ cs d) (ho : Ev K to ρ cs (.any (.ref a))) (hi : Ev K ti ρ cs (.int ((n : Nat) : Int))) (hn : n < ds.length) (k : P.nx ρ (setC a (.lst (ds.set n d)) cs)) :
    Sv K W bs (tAsg te (gSub to ti rSetL)) ρ cs P := fun G0 H0 G H σ E r e o => hv G H σ r.wl e _ fun v G2 H2 n2 rv => ho G2 H2 σ (r.step n2).wl (e.mono n2.g) _ fun u G3 H3 n3 ru => by
  cases ru
  refine hi G3 H3 σ ((r.step n2).step n3).wl ((e.mono n2.g).mono n3.g) _ fun y G4 H4 n4 ry => ?_
  cases ry
  have r4 := ((r.step n2).step n3).step n4
  obtain ⟨_, vs, hvs, rvs⟩ := r4.wl.cell _ hc
  have hl := rvs.length
  refine ⟨a, vs, ((n : Nat) : Int), n, rfl, rfl, hvs, ?_, o.nx G4 _ σ ρ _ (r4.write (d' := .lst (ds.set n d)) hc ⟨vs.set n v, upd_same, rvs.set ((rv.mono n3.g).mono n4.g) n⟩) (((e.mono n2.g).mono n3.g).mono n4.g) k⟩
  unfold ixN
  rw [if_pos (by omega), if_pos (by omega)]
  rfl
def lsetR (i : Nat) (φ : Fs) (o : Option D) (r s : Option Rs) : Option Br := match o, r, s with
  | some (.lst ds), some (.ok k (.int n)), some (.ok k2 d) => if k.fz = true ∧ k2.fz = true ∧ 0 ≤ n ∧ n < ds.length then some (.nx (putCell φ i (.lst (ds.set n.toNat d)))) else none
  | _, _, _ => none
def fLSet (i : Nat) (a b : FE) : FS := fun φ => lsetR i φ (cellOf φ i) (a φ) (b φ)
theorem sf_lset {i : Nat} (ha : EFb K W bs ε ti A) (hb : EFb K W bs ε te B) : SF K W bs ε (tAsg te (gSub (tVar i) ti rSetL)) (fLSet i A B) := fun bo xs φ r ρ cs p h => by
  unfold fLSet lsetR at h
  split at h
  · rename_i ds k n k2 d hi h1 h2
    split at h
    · rename_i hk
      obtain ⟨f1, f2, f3, f4⟩ := hk
      cases h
      refine sv_pn p fun as xo => sv_lset (n := n.toNat) (cell_mem hi) ((hb bo as xs φ _ xo h2).ev f2) (cell_ev hi) ?_ (by omega) (PN.put xo hi)
      have := (ha bo as xs φ _ xo h1).ev f1
      rw [Int.toNat_of_nonneg f3]
      exact this
    · cases h
  · cases h
theorem y_lset {i : Nat} {a b : FE} : fLSet i a b φ = lsetR i φ (cellOf φ i) (a φ) (b φ) := rfl
theorem n_lset {i n : Nat} {k k2 : Kd} {ds : List D} (h1 : k.fz = true) (h2 : k2.fz = true) (h : n < ds.length) : lsetR i φ (some (.lst ds)) (some (.ok k (.int n))) (some (.ok k2 d)) = some (.nx (putCell φ i (.lst (ds.set n d)))) := by
  show (if _ then _ else _) = _
  rw [if_pos ⟨h1, h2, by omega, by omega⟩]
  rfl
end
end Lv

/-! comprehensions of three clauses: one level at a time -/
namespace Lv
open PySem PySem.Spec PyProof.Rows L2
/-- the tests of one clause -/
abbrev tstS (fs : List Expr) (env : PySem.Env) : Sem Bool := forIn fs true fun c r => if r = true then do let good ← isTrue c env (eval c env); pure (ForInStep.yield good) else pure (ForInStep.yield r)
abbrev Fal : Value → Shared → Prop := fun _ _ => False
theorem wfF {α : Type} {t : Sem α} {Q : α → Shared → Prop} {M : Model} {A : Around} {E : Value → Shared → Prop} {s : Shared} (h : wpAny M A t Q Fal s) : wpAny M A t Q E s := wpAny_mono h (fun _ _ q => q) fun _ _ z => z.elim
abbrev Bd := (Shared → Prop) → Shared → Prop
/-- one level: c its code by the iterator, B what a turn does behind the tests -/
structure LvR (X : Cx) (tg : Expr) (fs : List Expr) (B : Bd) (c : Value → Code) : Prop where
  go : ∀ (it : Value) (R : Shared → Prop) (Y : Nat → Shared → Prop), (∀ n s, Y n s → wpAny (model X.prog X.w) X.A (pyNext it) (fun o s1 => match o with
      | none => R s1
      | some u => wpAny (model X.prog X.w) X.A (letOwnedTupleGo tg it u) (fun _ s2 => wpAny (model X.prog X.w) X.A (assign tg X.env u) (fun _ s3 => wpAny (model X.prog X.w) X.A (tstS fs X.env)
          (fun good s4 => if good = true then B (fun s5 => ∃ m, m < n ∧ Y m s5) s4 else ∃ m, m < n ∧ Y m s4) Fal s3) Fal s2) Fal s1) Fal s) →
    ∀ n s, Y n s → codeAny (model X.prog X.w) X.A (c it) (fun r s' => r = .ok .next ∧ R s') s
/-- the last level's body -/
def bLast (X : Cx) (elt : Expr) (acc : Value) : Bd := fun Q s => wpAny (model X.prog X.w) X.A (eval elt X.env) (fun y s1 => wpAny (model X.prog X.w) X.A (call (.builtin "list.append") [acc, y]) (fun _ s2 => Q s2) Fal s1) Fal s
/-- another level's: it starts the next one, c the code of that start -/
def bNext (X : Cx) (src : Expr) (c : Value → Code) : Bd := fun Q s => wpAny (model X.prog X.w) X.A (eval src X.env) (fun y s1 => wpAny (model X.prog X.w) X.A (pyIter y) (fun it s2 => codeAny (model X.prog X.w) X.A (c it) (fun r s' => r = .ok .next ∧ Q s') s2) Fal s1) Fal s
section
variable {elt t0 i0 t1 i1 t2 i2 : Expr} {f0 f1 f2 : List Expr} {scope : Scope} {pos : Pos} {it acc : Value} {env : PySem.Env} {X : Cx}
abbrev Lc3 (elt t0 i0 : Expr) (f0 : List Expr) (t1 i1 : Expr) (f1 : List Expr) (t2 i2 : Expr) (f2 : List Expr) (scope : Scope) (pos : Pos) : Expr := .ListComp elt [⟨t0, i0, f0, 0⟩, ⟨t1, i1, f1, 0⟩, ⟨t2, i2, f2, 0⟩] scope pos
theorem turn3_0 : compTurn (Lc3 elt t0 i0 f0 t1 i1 f1 t2 i2 f2 scope pos) 0 it acc env = (do
      standAt i0.pos
      match ← pyNext it with
      | none => pure (.done .next)
      | some u =>
        letOwnedTupleGo t0 it u
        assign t0 env u
        let mut good := true
        for c in f0 do
          if good then good ← isTrue c env (eval c env)
        if good then
          let y ← eval i1 env
          standAt i1.pos
          let y ← foldedSetIterable i1 env y
          let _ ← runOwn (.compStart (Lc3 elt t0 i0 f0 t1 i1 f1 t2 i2 f2 scope pos) 1 (← holding [y] (pyIter y)) acc env) env
        again (.compLoop (Lc3 elt t0 i0 f0 t1 i1 f1 t2 i2 f2 scope pos) 0 it acc env)) := by rfl
theorem turn3_1 : compTurn (Lc3 elt t0 i0 f0 t1 i1 f1 t2 i2 f2 scope pos) 1 it acc env = (do
      standAt i1.pos
      match ← pyNext it with
      | none => pure (.done .next)
      | some u =>
        letOwnedTupleGo t1 it u
        assign t1 env u
        let mut good := true
        for c in f1 do
          if good then good ← isTrue c env (eval c env)
        if good then
          let y ← eval i2 env
          standAt i2.pos
          let y ← foldedSetIterable i2 env y
          let _ ← runOwn (.compStart (Lc3 elt t0 i0 f0 t1 i1 f1 t2 i2 f2 scope pos) 2 (← holding [y] (pyIter y)) acc env) env
        again (.compLoop (Lc3 elt t0 i0 f0 t1 i1 f1 t2 i2 f2 scope pos) 1 it acc env)) := by rfl
theorem turn3_2 : compTurn (Lc3 elt t0 i0 f0 t1 i1 f1 t2 i2 f2 scope pos) 2 it acc env = (do
      standAt i2.pos
      match ← pyNext it with
      | none => pure (.done .next)
      | some u =>
        letOwnedTupleGo t2 it u
        assign t2 env u
        let mut good := true
        for c in f2 do
          if good then good ← isTrue c env (eval c env)
        if good then
          (do let _ ← call (.builtin "list.append") [acc, ← eval elt env])
        again (.compLoop (Lc3 elt t0 i0 f0 t1 i1 f1 t2 i2 f2 scope pos) 2 it acc env)) := by rfl
theorem lvr3_2 : LvR X t2 f2 (bLast X elt acc) fun it => .compLoop (Lc3 elt t0 i0 f0 t1 i1 f1 t2 i2 f2 scope pos) 2 it acc X.env := ⟨fun it R Y turn n0 s0 y0 => by
  refine codeAny_loop rfl Y (fun n s hY => ?_) n0 y0
  show wpAny _ X.A ((compTurn (Lc3 elt t0 i0 f0 t1 i1 f1 t2 i2 f2 scope pos) 2 it acc X.env).onRaise (fun x => do noteFrame x X.env; theTreesLotGoes x)) _ _ s
  refine wpAny_noted ?_
  rw [turn3_2]
  refine wpAny_bind (wpAny_standAt (wpAny_bind ((thnF (turn n s hY) fun o s1 k1 => ?_))))
  cases o with
  | none => exact wpAny_pure ⟨rfl, k1⟩
  | some u =>
    refine wpAny_bind (thnF k1 fun _ s2 k2 => ?_)
    refine wpAny_bind (thnF k2 fun _ s3 k3 => wpAny_bind (thnF k3 fun good s4 k4 => ?_))
    cases good with
    | false => exact wpAny_pure ⟨rfl, k4⟩
    | true => exact wpAny_bind (wpAny_bind (thnF k4 fun y s5 k5 => wpAny_bind (thnF k5 fun _ s6 k6 => wpAny_pure (wpAny_pure ⟨rfl, k6⟩))))⟩
theorem lvr3_1 (fold : ∀ x, foldedSetIterable i2 X.env x = pure x) : LvR X t1 f1 (bNext X i2 fun it => .compStart (Lc3 elt t0 i0 f0 t1 i1 f1 t2 i2 f2 scope pos) 2 it acc X.env) fun it => .compLoop (Lc3 elt t0 i0 f0 t1 i1 f1 t2 i2 f2 scope pos) 1 it acc X.env := ⟨fun it R Y turn n0 s0 y0 => by
  refine codeAny_loop rfl Y (fun n s hY => ?_) n0 y0
  show wpAny _ X.A ((compTurn (Lc3 elt t0 i0 f0 t1 i1 f1 t2 i2 f2 scope pos) 1 it acc X.env).onRaise (fun x => do noteFrame x X.env; theTreesLotGoes x)) _ _ s
  refine wpAny_noted ?_
  rw [turn3_1]
  refine wpAny_bind (wpAny_standAt (wpAny_bind ((thnF (turn n s hY) fun o s1 k1 => ?_))))
  cases o with
  | none => exact wpAny_pure ⟨rfl, k1⟩
  | some u =>
    refine wpAny_bind (thnF k1 fun _ s2 k2 => ?_)
    refine wpAny_bind (thnF k2 fun _ s3 k3 => wpAny_bind (thnF k3 fun good s4 k4 => ?_))
    cases good with
    | false => exact wpAny_pure ⟨rfl, k4⟩
    | true =>
      refine wpAny_bind (thnF k4 fun y s5 k5 => ?_)
      refine wpAny_bind (wpAny_standAt (wpAny_bind (wpAny_of_eq (fold y) (wpAny_bind (wpAny_holding (thnF k5 fun jt s6 k6 => ?_))))))
      refine wpAny_bind (wpAny_runOwn ?_)
      rw [Around.mark_none]
      refine codeAny_mono k6 fun r s' hr => ?_
      obtain ⟨rfl, hr⟩ := hr
      first
        | exact wpAny_pure ⟨rfl, hr⟩
        | exact wpAny_bind (wpAny_pure (wpAny_pure ⟨rfl, hr⟩))⟩
theorem lvr3_0 (fold : ∀ x, foldedSetIterable i1 X.env x = pure x) : LvR X t0 f0 (bNext X i1 fun it => .compStart (Lc3 elt t0 i0 f0 t1 i1 f1 t2 i2 f2 scope pos) 1 it acc X.env) fun it => .compLoop (Lc3 elt t0 i0 f0 t1 i1 f1 t2 i2 f2 scope pos) 0 it acc X.env := ⟨fun it R Y turn n0 s0 y0 => by
  refine codeAny_loop rfl Y (fun n s hY => ?_) n0 y0
  show wpAny _ X.A ((compTurn (Lc3 elt t0 i0 f0 t1 i1 f1 t2 i2 f2 scope pos) 0 it acc X.env).onRaise (fun x => do noteFrame x X.env; theTreesLotGoes x)) _ _ s
  refine wpAny_noted ?_
  rw [turn3_0]
  refine wpAny_bind (wpAny_standAt (wpAny_bind ((thnF (turn n s hY) fun o s1 k1 => ?_))))
  cases o with
  | none => exact wpAny_pure ⟨rfl, k1⟩
  | some u =>
    refine wpAny_bind (thnF k1 fun _ s2 k2 => ?_)
    refine wpAny_bind (thnF k2 fun _ s3 k3 => wpAny_bind (thnF k3 fun good s4 k4 => ?_))
    cases good with
    | false => exact wpAny_pure ⟨rfl, k4⟩
    | true =>
      refine wpAny_bind (thnF k4 fun y s5 k5 => ?_)
      refine wpAny_bind (wpAny_standAt (wpAny_bind (wpAny_of_eq (fold y) (wpAny_bind (wpAny_holding (thnF k5 fun jt s6 k6 => ?_))))))
      refine wpAny_bind (wpAny_runOwn ?_)
      rw [Around.mark_none]
      refine codeAny_mono k6 fun r s' hr => ?_
      obtain ⟨rfl, hr⟩ := hr
      first
        | exact wpAny_pure ⟨rfl, hr⟩
        | exact wpAny_bind (wpAny_pure (wpAny_pure ⟨rfl, hr⟩))⟩
end
end Lv

/-! comprehensions of three clauses: what a level does to slots and heap -/
namespace Lv
open PySem PySem.Spec PyProof.Rows L2
section
variable {elt t0 i0 t1 i1 t2 i2 : Expr} {f0 f1 f2 : List Expr} {scope : Scope} {pos : Pos} {acc : Value} {X : Cx}
theorem st3_1 {it : Value} {R : Result → Shared → Prop} {s : Shared} (h0 : codeAny (model X.prog X.w) X.A (.compLoop (Lc3 elt t0 i0 f0 t1 i1 f1 t2 i2 f2 scope pos) 1 it acc X.env) R s)
    (h1 : wpAny (model X.prog X.w) X.A (pyIter it) (fun jt s1 => codeAny (model X.prog X.w) X.A (.compLoop (Lc3 elt t0 i0 f0 t1 i1 f1 t2 i2 f2 scope pos) 1 jt acc X.env) R s1) Fal s) :
    codeAny (model X.prog X.w) X.A (.compStart (Lc3 elt t0 i0 f0 t1 i1 f1 t2 i2 f2 scope pos) 1 it acc X.env) R s := by
  refine codeAny_of_tree ?_
  show wpAny _ _ ((compStart (Lc3 elt t0 i0 f0 t1 i1 f1 t2 i2 f2 scope pos) 1 it acc X.env).onRaise (fun x => do noteFrame x X.env; standAt theWindowsPlace)) _ _ s
  refine wpAny_notedAt ?_
  unfold compStart
  show wpAny _ _ (ask >>= _) _ _ s
  refine wpAny_bind (wpAny_askSetting (wpAny_ite ?_))
  split
  · first
      | exact wpAny_pure ⟨rfl, h0⟩
      | exact wpAny_bind (wpAny_pure (wpAny_pure ⟨rfl, h0⟩))
  · first
      | exact wpAny_bind (wpAny_rule (wpAny_bind (wpAny_standAt (wpAny_bind (thnF h1 fun jt s1 k1 => wpAny_pure ⟨rfl, k1⟩)))))
      | (refine wpAny_bind (wpAny_rule ?_); show wpAny _ _ (standAt i1.pos >>= _) _ _ s; exact wpAny_bind (wpAny_standAt (wpAny_bind (thnF h1 fun jt s1 k1 => wpAny_pure ⟨rfl, k1⟩))))
theorem st3_2 {it : Value} {R : Result → Shared → Prop} {s : Shared} (h0 : codeAny (model X.prog X.w) X.A (.compLoop (Lc3 elt t0 i0 f0 t1 i1 f1 t2 i2 f2 scope pos) 2 it acc X.env) R s)
    (h1 : wpAny (model X.prog X.w) X.A (pyIter it) (fun jt s1 => codeAny (model X.prog X.w) X.A (.compLoop (Lc3 elt t0 i0 f0 t1 i1 f1 t2 i2 f2 scope pos) 2 jt acc X.env) R s1) Fal s) :
    codeAny (model X.prog X.w) X.A (.compStart (Lc3 elt t0 i0 f0 t1 i1 f1 t2 i2 f2 scope pos) 2 it acc X.env) R s := by
  refine codeAny_of_tree ?_
  show wpAny _ _ ((compStart (Lc3 elt t0 i0 f0 t1 i1 f1 t2 i2 f2 scope pos) 2 it acc X.env).onRaise (fun x => do noteFrame x X.env; standAt theWindowsPlace)) _ _ s
  refine wpAny_notedAt ?_
  unfold compStart
  show wpAny _ _ (ask >>= _) _ _ s
  refine wpAny_bind (wpAny_askSetting (wpAny_ite ?_))
  split
  · first
      | exact wpAny_pure ⟨rfl, h0⟩
      | exact wpAny_bind (wpAny_pure (wpAny_pure ⟨rfl, h0⟩))
  · first
      | exact wpAny_bind (wpAny_rule (wpAny_bind (wpAny_standAt (wpAny_bind (thnF h1 fun jt s1 k1 => wpAny_pure ⟨rfl, k1⟩)))))
      | (refine wpAny_bind (wpAny_rule ?_); show wpAny _ _ (standAt i2.pos >>= _) _ _ s; exact wpAny_bind (wpAny_standAt (wpAny_bind (thnF h1 fun jt s1 k1 => wpAny_pure ⟨rfl, k1⟩))))
end
/-- what a walk's turns do where X stands -/
structure TurnX (X : Cx) (tg : Expr) (J : It) (fp : List Addr) (it : Addr) (tn : Nat → Heap → Prop) : Prop where
  stands : ∀ (n : Nat) (hp : Heap), tn n hp → ∀ b ∈ fp, ∃ o, hp.get? b = some o ∧ ∀ v, o.data ≠ .cell v
  stays : ∀ (n : Nat) (hp hq : Heap), tn n hp → (∀ b ∈ fp, ∀ o, hp.get? b = some o → hq.get? b = some o) → tn n hq
  gives : ∀ (n : Nat) (pins : List (Addr × Obj)) (s : Shared) (σ : L2.St) (H : Hp), Inv X pins σ H s → (∀ b ∈ fp, FpOk X pins H b) → tn n s.heap → J.go n H →
    wpAny (model X.prog X.w) X.A (pyNext (.ref it)) (fun o s1 => ∃ u, o = some u ∧
      wpAny (model X.prog X.w) X.A (letOwnedTupleGo tg (.ref it) u) (fun _ s2 => ∃ x H', Inv X pins σ H' s2 ∧ RelV x u ∧ J.yld n H x H' ∧ tn (n + 1) s2.heap ∧ ∀ b ∈ fp, H' b = none) Fal s1) Fal s
  ends : ∀ (n : Nat) (pins : List (Addr × Obj)) (s : Shared) (σ : L2.St) (H : Hp), Inv X pins σ H s → (∀ b ∈ fp, FpOk X pins H b) → tn n s.heap → J.stop n H →
    wpAny (model X.prog X.w) X.A (pyNext (.ref it)) (fun o s1 => o = none ∧ Inv X pins σ H s1) Fal s
theorem turnX_calm {X : Cx} {tg : Expr} {J : It} {fp : List Addr} {it : Addr} {tn : Nat → Heap → Prop} (T : Turn X.prog X.w X.K tg J fp it tn) (hc : X.calm = true) : TurnX X tg J fp it tn :=
  ⟨T.obj, T.keep, fun n pins s σ H I hf st hg => T.item X rfl rfl rfl hc n pins s σ H Fal I hf st hg, fun n pins s σ H I hf st hg => T.done X rfl rfl rfl hc n pins s σ H Fal I hf st hg⟩
/-- a body: what it does to slots and heap; it may touch the slots of V -/
abbrev TBd := L2.St → Hp → (Hp → Prop) → Prop
structure PB (X : Cx) (B : Bd) (V : List Nat) (tb : TBd) : Prop where
  run : ∀ (pins : List (Addr × Obj)) (s : Shared) (σ : L2.St) (H : Hp) (Q : Hp → Prop) (R : Shared → Prop), Inv X pins σ H s → tb σ H Q →
    (∀ σ' H' s', Inv X pins σ' H' s' → σ'.length = σ.length → (∀ j, j ∉ V → σ'[j]? = σ[j]?) → Q H' → R s') → B R s
def tTurns (J : It) (g : TG) (tt : TT) (vs : List Nat) (tb : TBd) (σ : L2.St) (H : Hp) (P : Hp → Prop) : Prop :=
  ∃ Y : Nat → Nat → Hp → Prop, (∃ m, Y 0 m H) ∧ ∀ n m H, Y n m H → (J.stop n H ∧ P H) ∨ (J.go n H ∧ ∃ N : Hp → Prop, (∀ H', N H' → ∃ m', m' < m ∧ Y (n + 1) m' H') ∧
    ∀ x H', J.yld n H x H' → g x (wipe σ vs) H' fun σ2 H2 => wipe σ2 vs = wipe σ vs ∧ tt σ2 H2 fun b H3 => if b = true then tb σ2 H3 N else N H3)
def tLoop (wi : TI) (g : TG) (tt : TT) (vs : List Nat) (tb : TBd) : TBd := fun σ H P => wi σ H fun J H1 => tTurns J g tt vs tb σ H1 P
def tApp (te : TE) (D : Addr) : TBd := fun σ H P => te σ H fun y H1 => ∃ us, H1 D = some (.lst us) ∧ us.length < sizeLine ∧ P (upd H1 D (.lst (us ++ [y])))
def tLcN (wi : TI) (g : TG) (tt : TT) (vs : List Nat) (tb : Addr → TBd) : TE := fun σ H Q => wi σ H fun J H1 => ∀ D, H1 D = none → tTurns J g tt vs (tb D) σ (upd H1 D (.lst [])) fun H2 => Q (.ref D) H2
section
variable {X : Cx}
theorem wipeAt3 {σ σ2 : L2.St} {vs : List Nat} (e : wipe σ2 vs = wipe σ vs) : σ2.length = (wipe σ vs).length ∧ ∀ j, j ∉ vs → σ2[j]? = (wipe σ vs)[j]? :=
  ⟨by rw [← e, wipe_length], fun j hj => by rw [← e, wipe_out hj]⟩
theorem pb_last {elt : Expr} {te : TE} {D : Addr} (hx : X.xe = Fal) (he : PE X elt te) : PB X (bLast X elt (.ref D)) [] (tApp te D) := ⟨fun pins s σ H Q R I h hR => by
  have r := he.run pins s σ H _ I h
  rw [hx] at r
  refine thnF r fun y s1 h1 => ?_
  obtain ⟨yv, H1, I1, r1, us, hD, hz, q⟩ := h1
  exact app_ok I1 hD hz r1 fun s2 I2 => hR _ _ _ I2 rfl (fun _ _ => rfl) q⟩
theorem drive {tg : Expr} {fs : List Expr} {B : Bd} {c : Value → Code} (L : LvR X tg fs B c) (hx : X.xe = Fal) {it : Addr} {fp : List Addr} {tn : Nat → Heap → Prop} {J : It} (T : TurnX X tg J fp it tn) {g : TG} {tt : TT} (hg : PG X tg g) (ht : PTs X fs tt)
    {V vs : List Nat} {tb : TBd} (hb : PB X B V tb) (hV : ∀ j ∈ V, j ∈ vs) {pins : List (Addr × Obj)} {σ : L2.St} {H : Hp} {s : Shared} {P : Hp → Prop} (I : Inv X pins σ H s) (st : tn 0 s.heap) (hf : ∀ b ∈ fp, FpOk X pins H b)
    (h : tTurns J g tt vs tb σ H P) {R : Shared → Prop} (hR : ∀ s' H', Inv X pins (wipe σ vs) H' s' → P H' → R s') : codeAny (model X.prog X.w) X.A (c (.ref it)) (fun r s' => r = .ok .next ∧ R s') s := by
  obtain ⟨Y, ⟨m0, y0⟩, turn⟩ := h
  have free : ∀ {H' : Hp}, (∀ b ∈ fp, H' b = none) → ∀ b ∈ fp, FpOk X pins H' b := fun hn b hb => ⟨hn b hb, (hf b hb).2⟩
  refine L.go (.ref it) R (fun m s' => ∃ n H', Inv X pins (wipe σ vs) H' s' ∧ tn n s'.heap ∧ (∀ b ∈ fp, H' b = none) ∧ Y n m H') ?_ m0 s ⟨0, H, I.weak (wipe_length σ vs) fun j v e => (wipe_some e).1, st, fun b hb => (hf b hb).1, y0⟩
  rintro m s1 ⟨n, H1, I1, st1, n1, y1⟩
  rcases turn n m H1 y1 with ⟨stop, q⟩ | ⟨go, N, hN, step⟩
  · refine thnF (T.ends n pins s1 _ H1 I1 (free n1) st1 stop) fun o s2 k2 => ?_
    obtain ⟨rfl, I2⟩ := k2
    exact hR s2 H1 I2 q
  · refine thnF (T.gives n pins s1 _ H1 I1 (free n1) st1 go) fun o s2 k2 => ?_
    obtain ⟨u, rfl, k2⟩ := k2
    refine thnF k2 fun _ s3 k3 => ?_
    obtain ⟨x, H3, I3, r3, yl3, st3, n3⟩ := k3
    have I3' := I3.pinned (free n3) (T.stands _ _ st3)
    have k4 := hg.run _ s3 _ H3 x u _ I3' r3 (step x H3 yl3)
    rw [hx] at k4
    refine thnF k4 fun _ s4 k5 => ?_
    obtain ⟨σ4, H4, I4, w4, t4⟩ := k5
    obtain ⟨l4, o4⟩ := wipeAt3 w4
    have k6 := ht.run _ s4 σ4 H4 _ I4 t4
    rw [hx] at k6
    refine thnF k6 fun good s5 k7 => ?_
    obtain ⟨H5, I5, q5⟩ := k7
    have back : ∀ {σ' : L2.St} {H' : Hp} {s' : Shared}, Inv X (pins ++ pinsAt fp s3.heap) σ' H' s' → σ'.length = σ4.length → (∀ j, j ∉ V → σ'[j]? = σ4[j]?) → N H' → ∃ m', m' < m ∧ ∃ n' H'', Inv X pins (wipe σ vs) H'' s' ∧ tn n' s'.heap ∧ (∀ b ∈ fp, H'' b = none) ∧ Y n' m' H'' := fun {σ' H' s'} I' hl ho nx => by
      obtain ⟨m', lt, y'⟩ := hN H' nx
      have at3 : ∀ b ∈ fp, ∀ o, s3.heap.get? b = some o → s'.heap.get? b = some o ∧ H' b = none := fun b hb o e => by
        have z := I'.pin (b, o) (List.mem_append_right _ (List.mem_append_right _ (mem_pinsAt hb e)))
        exact ⟨z.1, z.2.1⟩
      refine ⟨m', lt, n + 1, H', I'.unpinned.weak (by rw [hl, l4]) (fun j v e => ?_), T.stays _ _ _ st3 fun b hb o e => (at3 b hb o e).1, fun b hb => ?_, y'⟩
      · obtain ⟨e1, e2⟩ := wipe_some e
        rw [ho j fun z => e2 (hV j z), o4 j e2]
        exact e
      · obtain ⟨o, e, _⟩ := T.stands _ _ st3 b hb
        exact (at3 b hb o e).2
    cases good with
    | false => exact back I5 rfl (fun _ _ => rfl) q5
    | true => exact hb.run _ s5 σ4 H5 N _ I5 q5 fun σ' H' s' I' hl ho nx => back I' hl ho nx
theorem pb_next {tg src : Expr} {fs : List Expr} {B : Bd} {c0 c : Value → Code} (hx : X.xe = Fal) (hc : X.calm = true) (L : LvR X tg fs B c) {wi : TI} (hi : PI X tg src wi) {g : TG} {tt : TT} (hg : PG X tg g) (ht : PTs X fs tt) {V vs : List Nat} {tb : TBd} (hb : PB X B V tb) (hV : ∀ j ∈ V, j ∈ vs)
    (hst : ∀ {it : Value} {R : Result → Shared → Prop} {s : Shared}, codeAny (model X.prog X.w) X.A (c it) R s → wpAny (model X.prog X.w) X.A (pyIter it) (fun jt s1 => codeAny (model X.prog X.w) X.A (c jt) R s1) Fal s → codeAny (model X.prog X.w) X.A (c0 it) R s) :
    PB X (bNext X src c0) vs (tLoop wi g tt vs tb) := ⟨fun pins s σ H Q R I h hR => by
  have r := hi.run pins s σ H _ I h
  rw [hx] at r
  refine thnF r fun y s1 k1 => ?_
  refine thnF k1 fun it s2 k2 => ?_
  obtain ⟨ia, fp, tn, J, H2, rfl, I2, T, st2, f2, q⟩ := k2
  have lp := drive L hx (turnX_calm T hc) hg ht hb hV I2 st2 f2 q (R := R) fun s' H' I' q' => hR _ _ _ I' (wipe_length σ vs) (fun j hj => wipe_out hj) q'
  exact hst lp (T.self X.A 0 s2 _ Fal st2 lp)⟩
end
end Lv

/-! comprehensions of three clauses, comprehensions in an except suite: the block around the levels -/
namespace Lv
open PySem PySem.Spec PyProof.Rows L2
/-- the source of the first clause: what it gives wherever O holds -/
structure GX (X : Cx) (O : Cx → Prop) (tg src : Expr) (wi : TI) : Prop where
  run : ∀ (pins : List (Addr × Obj)) (s : Shared) (σ : L2.St) (H : Hp) (R : It → Hp → Prop), Inv X pins σ H s → wi σ H R →
    wpAny (model X.prog X.w) X.A (eval src X.env) (fun v s1 => wpAny (model X.prog X.w) X.A (pyIter v) (fun o s2 => ∃ (ia : Addr) (fp : List Addr) (tn : Nat → Heap → Prop) (J : It) (H' : Hp), o = .ref ia ∧ Inv X pins σ H' s2 ∧
      (∀ Z : Cx, Z.prog = X.prog → Z.w = X.w → Z.K = X.K → O Z → TurnX Z tg J fp ia tn) ∧ tn 0 s2.heap ∧ (∀ b ∈ fp, FpOk X pins H' b) ∧ (∀ (A : Around) (s : Shared) (Q E : Value → Shared → Prop), tn 0 s.heap → Q (.ref ia) s → wpAny (model X.prog X.w) A (pyIter (.ref ia)) Q E s) ∧ R J H') X.xe s1) X.xe s
theorem gx_calm {X : Cx} {tg src : Expr} {wi : TI} (hi : PI X tg src wi) : GX X (fun Z => Z.calm = true) tg src wi := ⟨fun pins s σ H R I h => thn (hi.run pins s σ H R I h) fun v s1 k1 => thn k1 fun o s2 k2 => by
  obtain ⟨ia, fp, tn, J, H', e, I', T, st, f, q⟩ := k2
  refine ⟨ia, fp, tn, J, H', e, I', fun Z hp hw hK hc => ⟨T.obj, T.keep, ?_, ?_⟩, st, f, fun A s Q E => T.self A 0 s Q E, q⟩
  · intro n pins s σ H I hf st hg
    rw [hp, hw]
    exact T.item Z hp hw hK hc n pins s σ H Fal I hf st hg
  · intro n pins s σ H I hf st hg
    rw [hp, hw]
    exact T.done Z hp hw hK hc n pins s σ H Fal I hf st hg⟩
theorem gx_hot {X : Cx} {tg src : Expr} {wi : TI} (hi : L2H.PIH X tg src wi) : GX X L2H.HotC tg src wi := ⟨fun pins s σ H R I h => thn (hi.run pins s σ H R I h) fun v s1 k1 => thn k1 fun o s2 k2 => by
  obtain ⟨ia, fp, tn, J, H', e, I', T, st, f, q⟩ := k2
  refine ⟨ia, fp, tn, J, H', e, I', fun Z hp hw hK hc => ⟨T.obj, T.keep, ?_, ?_⟩, st, f, fun A s Q E => T.self A 0 s Q E, q⟩
  · intro n pins s σ H I hf st hg
    rw [hp, hw]
    exact T.item Z hp hw hK hc n pins s σ H Fal I hf st hg
  · intro n pins s σ H I hf st hg
    rw [hp, hw]
    exact T.done Z hp hw hK hc n pins s σ H Fal I hf st hg⟩
/-- the block's context, the pins pn stay -/
abbrev blkN (X : Cx) (pn : List (Addr × Obj)) (s : Shared) (H : Hp) (scope : Scope) (ce : PySem.Env) (fp : List Addr) : Cx := { X.blk s H scope ce fp with pn := pn }
section
variable {X : Cx} {pn : List (Addr × Obj)} {scope : Scope} {ce : PySem.Env} {fp : List Addr} {s0 s : Shared} {H0 H : Hp} {σ : L2.St}
theorem okN (h : (X.blk s0 H0 scope ce fp).Ok) : (blkN X pn s0 H0 scope ce fp).Ok := by
  obtain ⟨a1, a2, a3, a4, a5, a6, a7, a8, a9, a10, a11, a12, a13, a14, a15, a16, a17, a18⟩ := h
  exact ⟨a1, a2, a3, a4, a5, a6, a7, a8, a9, a10, a11, a12, a13, a14, a15, a16, a17, a18⟩
theorem invN (I : Inv (X.blk s0 H0 scope ce fp) [] σ H s) (h : ∀ p ∈ pn, s.heap.get? p.1 = some p.2 ∧ H p.1 = none ∧ p.1 ≠ ce.locals ∧ p.1 ∉ frs X.stack ∧ ∀ v, p.2.data ≠ .cell v) : Inv (blkN X pn s0 H0 scope ce fp) [] σ H s :=
  ⟨okN I.ok, I.os, I.bare, I.base, I.loc, I.cell, I.free, I.freeC, fun p hp => (List.mem_append.mp hp).elim (h p) fun z => absurd z (by simp), I.hok, I.len⟩
end
section
variable {X : Cx} {O : Cx → Prop}
theorem top_core {pn pins : List (Addr × Obj)} {s : Shared} {σ : L2.St} {H : Hp} {Q : VK} {elt tg src : Expr} {fs : List Expr} {gs : List Comprehension} {scope : Scope} {own : List (Str × Nat)} {pos pos' : Pos} {wi : TI} {g : TG} {tt : TT} {V : List Nat} {tb : Addr → TBd} {B : Cx → Value → Bd} {use : Option (Value → Sem Unit)} {Qf : Value → Shared → Prop}
    (hpn : ∀ p ∈ pn, p ∈ X.pn) (hO : ∀ s H ce fp, O (blkN X pn s H scope ce fp)) (hN : X.N.Nodup) (I : Inv X pins σ H s) (hi : GX X O tg src wi) (ok : BlkOk X.N X.env.scope scope own)
    (hL : ∀ s H C cl fp acc, LvR (blkN X pn s H scope (compEnvC scope cl C X.env) fp) tg fs (B (blkN X pn s H scope (compEnvC scope cl C X.env) fp) acc) fun it => .compLoop (.ListComp elt (⟨tg, src, fs, 0⟩ :: gs) scope pos) 0 it acc (compEnvC scope cl C X.env))
    (hg : ∀ s H C cl fp, PG (blkN X pn s H scope (compEnvC scope cl C X.env) fp) tg g) (ht : ∀ s H C cl fp, PTs (blkN X pn s H scope (compEnvC scope cl C X.env) fp) fs tt)
    (hb : ∀ s H C cl fp D, PB (blkN X pn s H scope (compEnvC scope cl C X.env) fp) (B (blkN X pn s H scope (compEnvC scope cl C X.env) fp) (.ref D)) V (tb D)) (hV : ∀ j ∈ V, j ∈ own.map (·.2)) (fold : ∀ x, foldedSetIterable src X.env x = pure x)
    (h : tLcN wi g tt (own.map (·.2)) tb σ H Q)
    (hRR : ∀ D C s' m H', Inv X pins σ H' s' → Q (.ref D) H' → s'.heap.Ns C m → FpOk X pins H' C → compPost (model X.prog X.w) X.A X.xe use Qf (.ref D) C (.ok .next) s') :
    wpAny (model X.prog X.w) X.A (comprehension (.ListComp elt (⟨tg, src, fs, 0⟩ :: gs) scope pos) scope X.env pos' (newList []) false (eval src X.env) use) Qf X.xe s := by
  have cells : ∀ y ∈ scope.names, y.2 = .free → ∃ c, X.env.cells.lookup y.1 = some c := fun y hy e => (ok.free y hy e).elim (fun k => I.ok.has _ (.inl k)) fun k => I.ok.has _ (.inr k)
  refine wpAny_comprehension_free (use := use) rfl fold (closure_ok cells) ok.kind (fun y hy e => (ok.uniq y hy).trans (by rw [e])) ?_
  refine thn (hi.run pins s σ H _ I h) fun v s1 k1 => thn k1 fun o s2 k2 => ?_
  obtain ⟨ia, fp, tn, J, H2, rfl, I2, T, st2, f2, self, q⟩ := k2
  refine wpAny_newObj_type (newEnv_comp ?_) (by show 0 ≤ sizeLine; decide)
  have hDn : H2 s2.heap.objs.size = none := I2.hok.fresh (Nat.le_refl _)
  have q := q s2.heap.objs.size hDn
  generalize hs3 : ({ s2 with heap := s2.heap.push { cls := .type "list", data := .seq ([] : List Value).toArray } } : Shared) = s3
  have h3 : s3.heap = s2.heap.push { cls := .type "list", data := .seq ([] : List Value).toArray } := by rw [← hs3]
  have grow : ∀ b o, s2.heap.get? b = some o → s3.heap.get? b = some o := fun b o e => by rw [h3]; exact Heap.get?_push_of_some _ e
  have I3 : Inv X pins σ (upd H2 s2.heap.objs.size (.lst [])) s3 := by
    rw [← hs3]
    exact I2.laid (t' := s2.toks) (fun b o e => Heap.get?_push_of_some _ e) (Nat.le_refl _) ⟨Nat.zero_le _, [], 0, .nil, Heap.get?_push_size _ rfl⟩
  have lt2 : ∀ b ∈ fp, b < s2.heap.objs.size := fun b hb => by
    obtain ⟨o, e, _⟩ := (T (blkN X pn s2 H2 scope X.env fp) rfl rfl rfl (hO _ _ _ _)).stands _ _ st2 b hb
    exact Heap.lt_size e
  have f3 : ∀ b ∈ fp, FpOk X pins (upd H2 s2.heap.objs.size (.lst [])) b ∧ b < s3.heap.objs.size := fun b hb => by
    have l := lt2 b hb
    refine ⟨⟨?_, (f2 b hb).2⟩, by rw [h3, Heap.size_push]; exact Nat.lt_succ_of_lt l⟩
    rw [upd_ne (Nat.ne_of_lt l)]
    exact (f2 b hb).1
  generalize hD : s2.heap.objs.size = D at *
  have I4 := block_start I3 ok hN f3
  have hL := hL s3 (upd H2 D (.lst [])) s3.heap.objs.size (cellsFrom (s3.heap.objs.size + 1) scope.names (cloFrom X.env.cells scope.names [])) fp (.ref D)
  have hg := hg s3 (upd H2 D (.lst [])) s3.heap.objs.size (cellsFrom (s3.heap.objs.size + 1) scope.names (cloFrom X.env.cells scope.names [])) fp
  have ht := ht s3 (upd H2 D (.lst [])) s3.heap.objs.size (cellsFrom (s3.heap.objs.size + 1) scope.names (cloFrom X.env.cells scope.names [])) fp
  have hb := hb s3 (upd H2 D (.lst [])) s3.heap.objs.size (cellsFrom (s3.heap.objs.size + 1) scope.names (cloFrom X.env.cells scope.names [])) fp D
  show codeAny _ _ (.compStart (.ListComp elt (⟨tg, src, fs, 0⟩ :: gs) scope pos) 0 (.ref ia) (.ref D) (compEnvC scope (cellsFrom (s3.heap.objs.size + 1) scope.names (cloFrom X.env.cells scope.names [])) s3.heap.objs.size X.env)) (compPost (model X.prog X.w) X.A X.xe use Qf (.ref D) s3.heap.objs.size) { s3 with heap := pushCells (s3.heap.push { cls := .type "dict", data := .dict #[] }) scope.names }
  generalize hcl : cellsFrom (s3.heap.objs.size + 1) scope.names (cloFrom X.env.cells scope.names []) = cl at I4 hL hg ht hb ⊢
  have cL : (compEnvC scope cl s3.heap.objs.size X.env).locals = s3.heap.objs.size := rfl
  generalize compEnvC scope cl s3.heap.objs.size X.env = ce at *
  have grow4 : ∀ b o, s3.heap.get? b = some o → (pushCells (s3.heap.push { cls := .type "dict", data := .dict #[] }) scope.names).get? b = some o := fun b o e => pushCells_keeps _ _ _ _ (Heap.get?_push_of_some _ e)
  generalize hs4 : ({ s3 with heap := pushCells (s3.heap.push { cls := .type "dict", data := .dict #[] }) scope.names } : Shared) = s4 at I4 ⊢
  have h4 : s4.heap = pushCells (s3.heap.push { cls := .type "dict", data := .dict #[] }) scope.names := by rw [← hs4]
  have T := T (blkN X pn s3 (upd H2 D (.lst [])) scope ce fp) rfl rfl rfl (hO _ _ _ _)
  have st4 : tn 0 s4.heap := T.stays _ _ _ st2 fun b _ o e => by rw [h4]; exact grow4 _ _ (grow _ _ e)
  have I5 : Inv (blkN X pn s3 (upd H2 D (.lst [])) scope ce fp) [] (wipe σ (own.map (·.2))) (upd H2 D (.lst [])) s4 := by
    refine invN I4 fun p hp => ?_
    obtain ⟨p1, p2, p3, p4, p5⟩ := I3.pin p (List.mem_append_left _ (hpn p hp))
    refine ⟨by rw [h4]; exact grow4 _ _ p1, p2, by rw [cL]; exact Nat.ne_of_lt (Heap.lt_size p1), fun z => ?_, p5⟩
    rcases I3.ok.stk with e | ⟨e, e'⟩
    · rw [e] at z
      exact p4 z
    · rw [e] at z
      unfold frs at z
      rw [List.filterMap_cons, e'] at z
      rcases List.mem_cons.mp z with z | z
      · exact p3 z
      · exact p4 z
  have f5 : ∀ b ∈ fp, FpOk (blkN X pn s3 (upd H2 D (.lst [])) scope ce fp) [] (upd H2 D (.lst [])) b := fun b hb =>
    ⟨(f3 b hb).1.1, (I5.ok.exf b hb).1, I5.ok.exfs b hb, .inl hb, fun x c e => (I5.ok.exf b hb).2 x c e, fun p hp => (List.mem_append.mp hp).elim (fun z => (f3 b hb).1.2.2.2.2.2 p (List.mem_append_left _ (hpn p z))) fun z => absurd z (by simp)⟩
  have lp := drive hL rfl T hg ht hb hV (I5.weak (σ' := wipe σ (own.map (·.2))) rfl fun _ _ e => e) st4 f5 (P := fun H6 => Q (.ref D) H6) (by
    obtain ⟨Y, y0, turn⟩ := q
    refine ⟨Y, y0, fun n m H y => ?_⟩
    have ww : wipe (wipe σ (own.map (·.2))) (own.map (·.2)) = wipe σ (own.map (·.2)) := by
      generalize own.map (·.2) = vs
      apply List.ext_getElem?
      intro j
      by_cases hj : j ∈ vs
      · cases e1 : (wipe (wipe σ vs) vs)[j]? with
        | none =>
          rw [List.getElem?_eq_none_iff, wipe_length] at e1
          exact (List.getElem?_eq_none e1).symm
        | some a1 =>
          have l1 := (List.getElem?_eq_some_iff.mp e1).1
          rw [wipe_length] at l1
          cases e2 : (wipe σ vs)[j]? with
          | none => rw [List.getElem?_eq_none_iff] at e2; omega
          | some a2 =>
            cases a1 with
            | some v => exact absurd hj (wipe_some e1).2
            | none =>
              cases a2 with
              | none => rfl
              | some v => exact absurd hj (wipe_some e2).2
      · rw [wipe_out hj]
    rw [ww]
    exact turn n m H y) (R := fun s' => compPost (model X.prog X.w) X.A X.xe use Qf (.ref D) s3.heap.objs.size (.ok .next) s') fun s6 H6 I6 q6 => by
      have I7 : Inv X pins σ H6 s6 := I3.call' (ch := fp) I6.os I6.base I6.hok I6.bare fun b hb => ⟨(f3 b hb).1.2.2.2.1, (f3 b hb).1.2.1, (f3 b hb).1.2.2.2.2.1, (f3 b hb).1.2.2.2.2.2⟩
      have nC : H6 ce.locals = none := I6.free
      obtain ⟨m, hn, _⟩ := I6.loc
      have hn : s6.heap.Ns ce.locals m := hn
      rw [cL] at nC hn
      exact hRR D s3.heap.objs.size s6 m H6 I7 q6 hn (I3.fpOk (Nat.le_refl _) nC)
  have lp' := codeAny_mono lp (R' := compPost (model X.prog X.w) X.A X.xe use Qf (.ref D) s3.heap.objs.size) fun r s' k => by
    obtain ⟨rfl, k⟩ := k
    exact k
  exact codeAny_compStart_list lp' (self X.A s4 _ _ st4 lp')
end
end Lv

/-! comprehensions of three clauses, comprehensions in an except suite: the rules of the walk -/
namespace Lv
open PySem PySem.Spec PyProof.Rows L2
section
variable {X : Cx} {elt t0 i0 t1 i1 t2 i2 : Expr} {f0 f1 f2 : List Expr} {scope : Scope} {own : List (Str × Nat)} {vs1 vs2 : List Nat} {pos py spos : Pos} {w0 w1 w2 : TI} {g0 g1 g2 : TG} {c0 c1 c2 : TT} {te : TE}
abbrev InB (X : Cx) (scope : Scope) (P : Cx → Prop) : Prop := ∀ (s : Shared) (H : Hp) (C : Addr) (cl : List (Str × Addr)) (fp : List Addr), P (blkN X [] s H scope (compEnvC scope cl C X.env) fp)
def tLc3 (w0 : TI) (g0 : TG) (c0 : TT) (w1 : TI) (g1 : TG) (c1 : TT) (w2 : TI) (g2 : TG) (c2 : TT) (te : TE) (vs vs1 vs2 : List Nat) : TE := tLcN w0 g0 c0 vs fun D => tLoop w1 g1 c1 vs1 (tLoop w2 g2 c2 vs2 (tApp te D))
theorem lc3_core {pins : List (Addr × Obj)} {s : Shared} {σ : L2.St} {H : Hp} {Q : VK} {pos' : Pos} {use : Option (Value → Sem Unit)} {Qf : Value → Shared → Prop} (hc : X.calm = true) (hN : X.N.Nodup) (I : Inv X pins σ H s) (hi : PI X t0 i0 w0) (ok : BlkOk X.N X.env.scope scope own) (hv1 : ∀ j ∈ vs1, j ∈ own.map (·.2)) (hv2 : ∀ j ∈ vs2, j ∈ vs1)
    (hg : InB X scope fun Z => PG Z t0 g0) (ht : InB X scope fun Z => PTs Z f0 c0) (hi1 : InB X scope fun Z => PI Z t1 i1 w1) (hg1 : InB X scope fun Z => PG Z t1 g1) (ht1 : InB X scope fun Z => PTs Z f1 c1)
    (hi2 : InB X scope fun Z => PI Z t2 i2 w2) (hg2 : InB X scope fun Z => PG Z t2 g2) (ht2 : InB X scope fun Z => PTs Z f2 c2) (he : InB X scope fun Z => PE Z elt te)
    (hs : ∀ x, foldedSetIterable i0 X.env x = pure x) (hs1 : ∀ env x, foldedSetIterable i1 env x = pure x) (hs2 : ∀ env x, foldedSetIterable i2 env x = pure x) (h : tLc3 w0 g0 c0 w1 g1 c1 w2 g2 c2 te (own.map (·.2)) vs1 vs2 σ H Q)
    (hRR : ∀ D C s' m H', Inv X pins σ H' s' → Q (.ref D) H' → s'.heap.Ns C m → FpOk X pins H' C → compPost (model X.prog X.w) X.A X.xe use Qf (.ref D) C (.ok .next) s') :
    wpAny (model X.prog X.w) X.A (comprehension (Lc3 elt t0 i0 f0 t1 i1 f1 t2 i2 f2 scope pos) scope X.env pos' (newList []) false (eval i0 X.env) use) Qf X.xe s :=
  by
  have hb : ∀ (s : Shared) (H : Hp) (C : Addr) (cl : List (Str × Addr)) (fp : List Addr) (D : Addr), PB (blkN X [] s H scope (compEnvC scope cl C X.env) fp) (bNext (blkN X [] s H scope (compEnvC scope cl C X.env) fp) i1 fun it => .compStart (Lc3 elt t0 i0 f0 t1 i1 f1 t2 i2 f2 scope pos) 1 it (.ref D) (compEnvC scope cl C X.env)) vs1 (tLoop w1 g1 c1 vs1 (tLoop w2 g2 c2 vs2 (tApp te D))) := fun s H C cl fp D => by
    generalize hZ : blkN X [] s H scope (compEnvC scope cl C X.env) fp = Z
    have hcZ : Z.calm = true := by rw [← hZ]; exact hc
    have hxZ : Z.xe = Fal := by rw [← hZ]
    have heZ : Z.env = compEnvC scope cl C X.env := by rw [← hZ]
    have a1 : PI Z t1 i1 w1 := by rw [← hZ]; exact hi1 s H C cl fp
    have a2 : PG Z t1 g1 := by rw [← hZ]; exact hg1 s H C cl fp
    have a3 : PTs Z f1 c1 := by rw [← hZ]; exact ht1 s H C cl fp
    have b1 : PI Z t2 i2 w2 := by rw [← hZ]; exact hi2 s H C cl fp
    have b2 : PG Z t2 g2 := by rw [← hZ]; exact hg2 s H C cl fp
    have b3 : PTs Z f2 c2 := by rw [← hZ]; exact ht2 s H C cl fp
    have b4 : PE Z elt te := by rw [← hZ]; exact he s H C cl fp
    clear hZ
    rw [← heZ]
    have z0 : PB Z (bLast Z elt (.ref D)) [] (tApp te D) := pb_last hxZ b4
    have z1 : PB Z (bNext Z i2 fun it => .compStart (Lc3 elt t0 i0 f0 t1 i1 f1 t2 i2 f2 scope pos) 2 it (.ref D) Z.env) vs2 (tLoop w2 g2 c2 vs2 (tApp te D)) :=
      pb_next (c := fun it => .compLoop (Lc3 elt t0 i0 f0 t1 i1 f1 t2 i2 f2 scope pos) 2 it (.ref D) Z.env) hxZ hcZ lvr3_2 b1 b2 b3 z0 (fun j hj => absurd hj (by simp)) fun h0 h1 => st3_2 h0 h1
    exact pb_next (c := fun it => .compLoop (Lc3 elt t0 i0 f0 t1 i1 f1 t2 i2 f2 scope pos) 1 it (.ref D) Z.env) hxZ hcZ (lvr3_1 fun x => hs2 _ x) a1 a2 a3 z1 hv2 fun h0 h1 => st3_1 h0 h1
  have hL : ∀ (s : Shared) (H : Hp) (C : Addr) (cl : List (Str × Addr)) (fp : List Addr) (acc : Value), LvR (blkN X [] s H scope (compEnvC scope cl C X.env) fp) t0 f0 (bNext (blkN X [] s H scope (compEnvC scope cl C X.env) fp) i1 fun it => .compStart (Lc3 elt t0 i0 f0 t1 i1 f1 t2 i2 f2 scope pos) 1 it acc (compEnvC scope cl C X.env)) fun it => .compLoop (Lc3 elt t0 i0 f0 t1 i1 f1 t2 i2 f2 scope pos) 0 it acc (compEnvC scope cl C X.env) := fun s H C cl fp acc => lvr3_0 fun x => hs1 _ x
  exact top_core (X := X) (O := fun Z => Z.calm = true) (pn := []) (gs := [⟨t1, i1, f1, 0⟩, ⟨t2, i2, f2, 0⟩]) (B := fun Z acc => bNext Z i1 fun it => .compStart (Lc3 elt t0 i0 f0 t1 i1 f1 t2 i2 f2 scope pos) 1 it acc Z.env) (V := vs1) (tb := fun D => tLoop w1 g1 c1 vs1 (tLoop w2 g2 c2 vs2 (tApp te D))) (fun p hp => absurd hp (by simp)) (fun _ _ _ _ => hc) hN I (gx_calm hi) ok hL hg ht hb hv1 hs h hRR
theorem pe_lc3 (hc : X.calm = true) (hN : X.N.Nodup) (hi : PI X t0 i0 w0) (ok : BlkOk X.N X.env.scope scope own) (hv1 : ∀ j ∈ vs1, j ∈ own.map (·.2)) (hv2 : ∀ j ∈ vs2, j ∈ vs1)
    (hg : InB X scope fun Z => PG Z t0 g0) (ht : InB X scope fun Z => PTs Z f0 c0) (hi1 : InB X scope fun Z => PI Z t1 i1 w1) (hg1 : InB X scope fun Z => PG Z t1 g1) (ht1 : InB X scope fun Z => PTs Z f1 c1)
    (hi2 : InB X scope fun Z => PI Z t2 i2 w2) (hg2 : InB X scope fun Z => PG Z t2 g2) (ht2 : InB X scope fun Z => PTs Z f2 c2) (he : InB X scope fun Z => PE Z elt te)
    (hs : ∀ x, foldedSetIterable i0 X.env x = pure x := by intro _; rfl) (hs1 : ∀ env x, foldedSetIterable i1 env x = pure x := by intro _ _; rfl) (hs2 : ∀ env x, foldedSetIterable i2 env x = pure x := by intro _ _; rfl) :
    PE X (.ListComp elt [⟨t0, i0, f0, 0⟩, ⟨t1, i1, f1, 0⟩, ⟨t2, i2, f2, 0⟩] scope pos) (tLc3 w0 g0 c0 w1 g1 c1 w2 g2 c2 te (own.map (·.2)) vs1 vs2) := ⟨fun pins s σ H Q I h => by
  rw [eval_ListComp]
  exact lc3_core hc hN I hi ok hv1 hv2 hg ht hi1 hg1 ht1 hi2 hg2 ht2 he hs hs1 hs2 h fun D C s' m H' I' q hn f => ⟨m, hn, fun hp sb => ⟨.ref D, H', I'.turned (t' := s'.toks) (fun b o hb e => (sb.2 b hb).trans e) f.1 f.2.1 f.2.2.2.1 f.2.2.2.2.1 f.2.2.2.2.2, rfl, q⟩⟩⟩
theorem ps_setLc3 {i : Nat} {y : Str} (hc : X.calm = true) (hN : X.N.Nodup) (hy : X.N[i]? = some y) (hyl : X.env.scope.names.lookup y = some .local)
    (hsw : swapsWith (.ListComp elt [⟨t0, i0, f0, 0⟩, ⟨t1, i1, f1, 0⟩, ⟨t2, i2, f2, 0⟩] scope pos) (some (.Name y py)) spos.line X.env = pure true) (hi : PI X t0 i0 w0) (ok : BlkOk X.N X.env.scope scope own) (hv1 : ∀ j ∈ vs1, j ∈ own.map (·.2)) (hv2 : ∀ j ∈ vs2, j ∈ vs1)
    (hg : InB X scope fun Z => PG Z t0 g0) (ht : InB X scope fun Z => PTs Z f0 c0) (hi1 : InB X scope fun Z => PI Z t1 i1 w1) (hg1 : InB X scope fun Z => PG Z t1 g1) (ht1 : InB X scope fun Z => PTs Z f1 c1)
    (hi2 : InB X scope fun Z => PI Z t2 i2 w2) (hg2 : InB X scope fun Z => PG Z t2 g2) (ht2 : InB X scope fun Z => PTs Z f2 c2) (he : InB X scope fun Z => PE Z elt te)
    (hs : ∀ x, foldedSetIterable i0 X.env x = pure x := by intro _; rfl) (hs1 : ∀ env x, foldedSetIterable i1 env x = pure x := by intro _ _; rfl) (hs2 : ∀ env x, foldedSetIterable i2 env x = pure x := by intro _ _; rfl) :
    PS X (.Assign [.Name y py] (.ListComp elt [⟨t0, i0, f0, 0⟩, ⟨t1, i1, f1, 0⟩, ⟨t2, i2, f2, 0⟩] scope pos) spos) (tAsg (tLc3 w0 g0 c0 w1 g1 c1 w2 g2 c2 te (own.map (·.2)) vs1 vs2) (gName i)) := ⟨fun pins s σ H D I h => by
  rw [exec_Assign_Name_used _ _ _ _ hsw]
  refine wpAny_bind (wpAny_standAt (wpAny_bind ?_))
  show wpAny _ X.A (do let _ ← comprehension (Lc3 elt t0 i0 f0 t1 i1 f1 t2 i2 f2 scope pos) scope X.env (firstIterPos [⟨t0, i0, f0, 0⟩, ⟨t1, i1, f1, 0⟩, ⟨t2, i2, f2, 0⟩] pos) (newList []) false (eval i0 X.env) (some (assign (.Name y py) X.env))) _ _ s
  have h : tLc3 w0 g0 c0 w1 g1 c1 w2 g2 c2 te (own.map (·.2)) vs1 vs2 σ H (fun x H1 => gName i x σ H1 D.nx) := h
  refine wpAny_bind (thn (lc3_core (Qf := fun _ s' => SP X pins D .next s') hc hN I hi ok hv1 hv2 hg ht hi1 hg1 ht1 hi2 hg2 ht2 he hs hs1 hs2 h fun L C s' m H' I' q hn f => ?_) fun _ s' hq => wpAny_pure (wpAny_pure hq))
  show wpAny _ _ (assign (.Name y py) X.env (.ref L)) _ _ _
  refine wpAny_assign_Name (store_ok2 (v := V.ref L) I' hN hy (.inl hyl) rfl (fun s2 I2 k2 => ?_) (.inr hyl))
  obtain ⟨a, sb, ha⟩ := k2
  have apart : C ≠ a := ha.elim (fun z => by rw [z]; exact f.2.1) fun z e => f.2.2.2.2.1 y a z e.symm
  exact ⟨m, hn.sameBut sb apart, fun hp sb3 => ⟨_, H', I2.turned (t' := s2.toks) (fun b o hb e => (sb3.2 b hb).trans e) f.1 f.2.1 f.2.2.2.1 f.2.2.2.2.1 f.2.2.2.2.2, q⟩⟩⟩
/-! in an except suite: one clause over a range -/
abbrev InH (X : Cx) (scope : Scope) (P : Cx → Prop) : Prop := ∀ (s : Shared) (H : Hp) (C : Addr) (cl : List (Str × Addr)) (fp : List Addr), P (blkN X X.pn s H scope (compEnvC scope cl C X.env) fp)
theorem lvr1 {acc : Value} : LvR X t0 f0 (bLast X elt acc) fun it => .compLoop (.ListComp elt [⟨t0, i0, f0, 0⟩] scope pos) 0 it acc X.env := ⟨fun it R Y turn n s y => by
  refine compLoop_any (acc := acc) (env := X.env) (scope := scope) (pos := pos) (iter := i0) (elt := elt) Y (fun n s hy => ?_) n y
  refine thnF (turn n s hy) fun o s1 k1 => ?_
  cases o with
  | none => exact ⟨rfl, k1⟩
  | some u =>
    refine thnF k1 fun _ s2 k2 => thnF k2 fun _ s3 k3 => thnF k3 fun good s4 k4 => ?_
    cases good
    · exact k4
    · exact thnF k4 fun y s5 k5 => thnF k5 fun _ s6 k6 => k6⟩
def tLc1 (w0 : TI) (g0 : TG) (c0 : TT) (te : TE) (vs : List Nat) : TE := tLcN w0 g0 c0 vs fun D => tApp te D
theorem lcH_core {pins : List (Addr × Obj)} {s : Shared} {σ : L2.St} {H : Hp} {Q : VK} {pos' : Pos} {use : Option (Value → Sem Unit)} {Qf : Value → Shared → Prop} (hc : L2H.HotC X) (hN : X.N.Nodup) (I : Inv X pins σ H s) (hi : L2H.PIH X t0 i0 w0) (ok : BlkOk X.N X.env.scope scope own)
    (hg : InH X scope fun Z => PG Z t0 g0) (ht : InH X scope fun Z => PTs Z f0 c0) (he : InH X scope fun Z => PE Z elt te) (hs : ∀ x, foldedSetIterable i0 X.env x = pure x) (h : tLc1 w0 g0 c0 te (own.map (·.2)) σ H Q)
    (hRR : ∀ D C s' m H', Inv X pins σ H' s' → Q (.ref D) H' → s'.heap.Ns C m → FpOk X pins H' C → compPost (model X.prog X.w) X.A X.xe use Qf (.ref D) C (.ok .next) s') :
    wpAny (model X.prog X.w) X.A (comprehension (.ListComp elt [⟨t0, i0, f0, 0⟩] scope pos) scope X.env pos' (newList []) false (eval i0 X.env) use) Qf X.xe s :=
  top_core (O := L2H.HotC) (pn := X.pn) (B := fun Z acc => bLast Z elt acc) (V := []) (fun _ h => h) (fun _ _ _ _ => by obtain ⟨p, h1, h2⟩ := hc; exact ⟨p, h1, h2⟩) hN I (gx_hot hi) ok (fun s H C cl fp acc => lvr1) hg ht (fun s H C cl fp D => pb_last rfl (he s H C cl fp)) nofun hs h hRR
theorem pe_lcH (hc : L2H.HotC X) (hN : X.N.Nodup) (hi : L2H.PIH X t0 i0 w0) (ok : BlkOk X.N X.env.scope scope own)
    (hg : InH X scope fun Z => PG Z t0 g0) (ht : InH X scope fun Z => PTs Z f0 c0) (he : InH X scope fun Z => PE Z elt te) (hs : ∀ x, foldedSetIterable i0 X.env x = pure x := by intro _; rfl) :
    PE X (.ListComp elt [⟨t0, i0, f0, 0⟩] scope pos) (tLc1 w0 g0 c0 te (own.map (·.2))) := ⟨fun pins s σ H Q I h => by
  rw [eval_ListComp]
  exact lcH_core hc hN I hi ok hg ht he hs h fun D C s' m H' I' q hn f => ⟨m, hn, fun hp sb => ⟨.ref D, H', I'.turned (t' := s'.toks) (fun b o hb e => (sb.2 b hb).trans e) f.1 f.2.1 f.2.2.2.1 f.2.2.2.2.1 f.2.2.2.2.2, rfl, q⟩⟩⟩
end
end Lv

/-! comprehensions of many clauses: bodies that append -/
namespace Lv
open PySem L2
open Evl (Ex)
section
variable {K : PySem.W.Frag} {G1 H1 G6 H6 : Hp} {ρ : Ro} {cs cs' src : Cs} {te : TE} {tt : TT} {g : TG} {wi : TI} {v : D} {vs js : List Nat} {tb : Addr → TBd} {es ds xs : List D} {ρ1 : D → Ro} {f : D → Bool} {ys : D → List D} {Dl : Addr} {J : It} {σ : L2.St}
/-- a body that lengthens the list by es -/
def EvB (K : PySem.W.Frag) (tb : Addr → TBd) (ρ : Ro) (cs : Cs) (es : List D) : Prop := ∀ G1 H1 Dl, Wl K G1 H1 cs → H1 Dl = none → ∀ Gf ds Hc σ, Env K Gf σ ρ → LcJ K G1 H1 Gf Dl ds Hc → ds.length + es.length ≤ 100000 → ∀ Q : Hp → Prop, (∀ Hn, LcJ K G1 H1 Gf Dl (ds ++ es) Hn → Q Hn) → tb Dl σ Hc Q
theorem EvB.more (h : EvB K tb ρ cs es) (w : ∀ G H, Wl K G H cs' → Wl K G H cs) : EvB K tb ρ cs' es := fun G1 H1 Dl w1 => h G1 H1 Dl (w _ _ w1)
theorem eb_app (he : Ev K te ρ cs v) : EvB K (fun D => tApp te D) ρ cs [v] := fun G1 H1 Dl w1 hDl Gf ds Hc σ e inv hl Q q => by
  obtain ⟨Gc, us, n, fx, gD, hD, rl⟩ := inv
  refine he Gc Hc σ (w1.step n) (e.mono fx) _ fun y G2 H2 n2 ry => ?_
  have g2 : G2 Dl = none := n2.keepN hD gD
  exact ⟨us, n2.h _ _ hD, by rw [rl.length]; exact Evl.sz_lt (by rw [List.length_singleton] at hl; omega), q _ ⟨G2, us ++ [y], (n.trans n2).mutate hDl g2, fx.trans n2.g, g2, upd_same, (rl.mono n2.g).append (.one ry)⟩⟩
theorem eb_turns (w1 : Wl K G1 H1 cs) (hDl : H1 Dl = none) (e : Env K G6 σ ρ) (its : Its K J G6 src xs) (hsrc : ∀ c ∈ src, c ∈ cs) (inv : LcJ K G1 H1 G6 Dl ds H6) (hg : ∀ a ∈ xs, EvG K g a (wipeD ρ vs) (ρ1 a) js) (hj : ∀ j ∈ js, j ∈ vs) (ht : ∀ a ∈ xs, EvT K tt (ρ1 a) cs (f a))
    (hb : ∀ a ∈ xs, f a = true → EvB K tb (ρ1 a) cs (ys a)) (hl : ds.length + ((xs.filter f).flatMap ys).length ≤ 100000) {Q : Hp → Prop} (q : ∀ Hn, LcJ K G1 H1 G6 Dl (ds ++ (xs.filter f).flatMap ys) Hn → Q Hn) : tTurns J g tt vs (tb Dl) σ H6 Q := by
  have e1 : Env K G6 (wipe σ vs) (wipeD ρ vs) := e.wipe vs
  let inn : Nat → List D := fun n => ds ++ ((xs.take n).filter f).flatMap ys
  have i0 : inn 0 = ds := by
    show ds ++ _ = _
    simp
  refine ⟨fun n m Hd => m = xs.length - n ∧ n ≤ xs.length ∧ LcJ K G1 H1 G6 Dl (inn n) Hd, ⟨xs.length, rfl, Nat.zero_le _, by rw [i0]; exact inv⟩, fun n m Hd hY => ?_⟩
  obtain ⟨rfl, le, inv⟩ := hY
  by_cases lt : n < xs.length
  · have hm : xs[n] ∈ xs := List.getElem_mem lt
    have tk : xs.take (n + 1) = xs.take n ++ [xs[n]] := by rw [List.take_add_one, List.getElem?_eq_getElem lt]; rfl
    have hsum : f xs[n] = true → (inn n).length + (ys xs[n]).length ≤ 100000 := fun hf => by
      have z : xs.filter f = (xs.take n).filter f ++ (xs[n] :: (xs.drop (n + 1)).filter f) := by
        rw [← List.filter_cons_of_pos hf, ← List.filter_append, ← List.drop_eq_getElem_cons lt, List.take_append_drop]
      rw [z, List.flatMap_append, List.flatMap_cons, List.length_append, List.length_append] at hl
      show (ds ++ _).length + _ ≤ _
      rw [List.length_append]
      omega
    have up : inn (n + 1) = inn n ++ (if f xs[n] = true then ys xs[n] else []) := by
      show ds ++ _ = (ds ++ _) ++ _
      rw [tk, List.filter_append, List.flatMap_append, List.append_assoc]
      congr 2
      cases hf : f xs[n] <;> simp [List.filter_cons, hf]
    obtain ⟨Gc, us, nn, fx, gD, hD, rl⟩ := inv
    have wc := w1.step nn
    obtain ⟨go, yl⟩ := its.go n _ Gc Hd cs (List.getElem?_eq_getElem lt) fx wc hsrc
    refine .inr ⟨go, fun Hn => LcJ K G1 H1 G6 Dl (inn (n + 1)) Hn, fun Hn h => ⟨xs.length - (n + 1), by omega, rfl, by omega, h⟩, fun x H' hy => ?_⟩
    obtain ⟨G4, n4, rx⟩ := yl x H' hy
    refine hg _ hm G4 H' (wipe σ vs) x n4.s ((e1.mono fx).mono n4.g) rx _ fun σ2 e2 s2 => ⟨wipe_eq s2 hj, ?_⟩
    have w4 := wc.step n4
    refine ht _ hm G4 H' σ2 w4 e2 _ fun G5 H5 n5 => ?_
    have n45 := n4.trans n5
    have g5 : G5 Dl = none := n45.keepN hD gD
    have h5 : H5 Dl = some (.lst us) := n45.h _ _ hD
    have L5 : LcJ K G1 H1 G5 Dl (inn n) H5 := ⟨G5, us, nn.trans n45, Ex.refl _, g5, h5, rl.mono n45.g⟩
    have ex5 : Ex G6 G5 := fx.trans n45.g
    rw [up]
    cases hf : f xs[n] with
    | false =>
      show LcJ K G1 H1 G6 Dl (inn n ++ _) H5
      rw [if_neg (by decide), List.append_nil]
      exact ⟨G5, us, nn.trans n45, ex5, g5, h5, rl.mono n45.g⟩
    | true =>
      rw [if_pos rfl]
      refine hb _ hm hf G1 H1 Dl w1 hDl G5 (inn n) H5 σ2 (e2.mono n5.g) L5 (hsum hf) _ fun Hn k => ?_
      obtain ⟨G7, us7, n7, x7, g7, h7, r7⟩ := k
      exact ⟨G7, us7, n7, ex5.trans x7, g7, h7, r7⟩
  · obtain ⟨Gc, us, nn, fx, gD, hD, rl⟩ := inv
    refine .inl ⟨its.stop n Gc Hd cs (by omega) fx (w1.step nn) hsrc, q Hd ?_⟩
    have ee : inn n = ds ++ (xs.filter f).flatMap ys := by
      show ds ++ _ = _
      rw [List.take_of_length_le (by omega)]
    rw [← ee]
    exact ⟨Gc, us, nn, fx, gD, hD, rl⟩
theorem eb_loop (hi : EvI K wi ρ cs src xs) (hg : ∀ a ∈ xs, EvG K g a (wipeD ρ vs) (ρ1 a) js) (hj : ∀ j ∈ js, j ∈ vs) (ht : ∀ a ∈ xs, EvT K tt (ρ1 a) cs (f a)) (hb : ∀ a ∈ xs, f a = true → EvB K tb (ρ1 a) cs (ys a)) :
    EvB K (fun D => tLoop wi g tt vs (tb D)) ρ cs ((xs.filter f).flatMap ys) := fun G1 H1 Dl w1 hDl Gf ds Hc σ e inv hl Q q => by
  obtain ⟨Gc, us, n, fx, gD, hD, rl⟩ := inv
  refine hi Gc Hc σ (w1.step n) (e.mono fx) _ fun J G6 H6 n6 hsrc its => ?_
  have n06 := n.trans n6
  exact eb_turns w1 hDl ((e.mono fx).mono n6.g) its hsrc ⟨G6, us, n06, Ex.refl _, n6.keepN hD gD, n6.h _ _ hD, rl.mono n6.g⟩ hg hj ht hb hl fun Hn k => by
    obtain ⟨G7, us7, n7, x7, g7, h7, r7⟩ := k
    exact q Hn ⟨G7, us7, n7, (fx.trans n6.g).trans x7, g7, h7, r7⟩
theorem en_lcN (hi : EvI K wi ρ cs src xs) (hg : ∀ a ∈ xs, EvG K g a (wipeD ρ vs) (ρ1 a) js) (hj : ∀ j ∈ js, j ∈ vs) (ht : ∀ a ∈ xs, EvT K tt (ρ1 a) cs (f a)) (hb : ∀ a ∈ xs, f a = true → EvB K tb (ρ1 a) cs (ys a)) (hl : ((xs.filter f).flatMap ys).length ≤ 100000) :
    EvN K (tLcN wi g tt vs tb) ρ cs ((xs.filter f).flatMap ys) := fun G H σ w e Q q =>
  hi G H σ w e _ fun J G1 H1 n1 hsrc its Dl hDl => by
    have w1 := w.step n1
    refine eb_turns (ds := []) w1 hDl (e.mono n1.g) its hsrc ⟨G1, [], Nx.newc w1.sub hDl, Ex.refl _, Evl.fresh_back w1.sub hDl, upd_same, .nil⟩ hg hj ht hb (by simpa using hl) fun Hn k => ?_
    obtain ⟨G7, us7, n7, x7, g7, h7, r7⟩ := k
    rw [List.nil_append] at r7
    exact q Dl us7 G7 Hn (n1.trans n7) (Evl.fresh_back n1.h hDl) g7 h7 r7
end
end Lv

/-! F: comprehensions of many clauses -/
namespace Lv
open PySem L2
open Evl (Ex)
open Classical
abbrev FB := Fs → Option (List D)
def BF (K : PySem.W.Frag) (W : WX) (bs : List Addr) (ε : Xe) (tb : Addr → TBd) (F : FB) : Prop := ∀ as xs φ es, XO ε bs as φ xs → F φ = some es → EvB K tb (roOf as 0 φ) (csOf as 0 φ ++ xs) es
def bApp (el : FE) : FB := fun φ => (okV (el φ)).map ([·])
def lcB (g : FG) (c : FE) (b : FB) (φ : Fs) (d : D) : Option (List D) := match g d φ with
  | none => none
  | some φ1 => match okB (c φ1) with
    | some true => b φ1
    | some false => some []
    | none => none
def bLoop (i : FI) (g : FG) (c : FE) (vs : List Nat) (b : FB) : FB := fun φ => match i φ with
  | some (.ok ds none) => lcFl (lcB g c b (wipeS φ vs)) ds
  | _ => none
def fLcN (i : FI) (g : FG) (c : FE) (vs : List Nat) (b : FB) : FE := fun φ => match i φ with
  | some (.ok ds _) => match lcFl (lcB g c b (wipeS φ vs)) ds with
    | some es => if es.length ≤ 100000 then some (.ok .nw (.lst es)) else none
    | none => none
  | _ => none
section
variable {K : PySem.W.Frag} {W : WX} {bs : List Addr} {ε : Xe} {te : TE} {tt : TT} {E C : FE} {as : Nat → Addr} {xs : Cs} {φ : Fs} {g : TG} {Fg : FG} {js vs : List Nat} {tb : Addr → TBd} {B : FB} {wi : TI} {I : FI} {d : D} {es ds : List D}
theorem bf_app (he : EF K W bs ε te E) : BF K W bs ε (fun D => tApp te D) (bApp E) := fun as xs φ es xo h => by
  unfold bApp at h
  cases hv : okV (E φ) with
  | none => rw [hv] at h; cases h
  | some v =>
    rw [hv] at h
    cases h
    obtain ⟨k, e, hf⟩ := okV_some hv
    exact eb_app ((he as xs φ _ xo e).ev hf)
theorem lcB_ok (hg : GF K g Fg js) (hc : TF K W bs ε tt C) (hb : BF K W bs ε tb B) (xo : XO ε bs as φ xs) (h : lcB Fg C B (wipeS φ vs) d = some es) :
    EvG K g d (wipeD (roOf as 0 φ) vs) (roOf as 0 ((Fg d (wipeS φ vs)).getD [])) js ∧ EvT K tt (roOf as 0 ((Fg d (wipeS φ vs)).getD [])) (csOf as 0 φ ++ xs) ((okB (C ((Fg d (wipeS φ vs)).getD []))).getD false) ∧
    ((okB (C ((Fg d (wipeS φ vs)).getD []))).getD false = false → es = []) ∧ ((okB (C ((Fg d (wipeS φ vs)).getD []))).getD false = true → EvB K tb (roOf as 0 ((Fg d (wipeS φ vs)).getD [])) (csOf as 0 φ ++ xs) es) := by
  unfold lcB at h
  cases hφ : Fg d (wipeS φ vs) with
  | none => rw [hφ] at h; cases h
  | some φ1 =>
    rw [hφ] at h
    simp only [Option.getD_some] at h ⊢
    obtain ⟨a1, a2, a3, a4⟩ := hg _ _ _ hφ
    have sh : Sh φ φ1 := sh_wipe.trans a1
    have xo1 := xo.sh sh
    have sub : ∀ c ∈ csOf as 0 φ1 ++ xs, c ∈ csOf as 0 φ ++ xs := fun c hc => (List.mem_append.mp hc).elim (fun z => List.mem_append_left _ (sh.csm z)) fun z => List.mem_append_right _ z
    refine ⟨by rw [← ro_wipe]; exact a4 as, ?_⟩
    cases hb1 : okB (C φ1) with
    | none => rw [hb1] at h; cases h
    | some b =>
      rw [hb1] at h
      obtain ⟨k, hk⟩ := okB_some hb1
      refine ⟨(hc as xs φ1 _ xo1 hk : EvT K tt _ _ b).more sub xo1.nd, fun z => ?_, fun z => ?_⟩
      · simp only [Option.getD_some] at z
        subst z
        cases h
        rfl
      · simp only [Option.getD_some] at z
        subst z
        exact (hb as xs φ1 _ xo1 h).more fun G H w => w.subc sub xo1.nd
theorem lcF_all (hg : GF K g Fg js) (hc : TF K W bs ε tt C) (hb : BF K W bs ε tb B) (xo : XO ε bs as φ xs) (h : lcFl (lcB Fg C B (wipeS φ vs)) ds = some es) :
    es = (ds.filter fun d => (okB (C ((Fg d (wipeS φ vs)).getD []))).getD false).flatMap (fun d => (lcB Fg C B (wipeS φ vs) d).getD []) ∧ ∀ d ∈ ds, EvG K g d (wipeD (roOf as 0 φ) vs) (roOf as 0 ((Fg d (wipeS φ vs)).getD [])) js ∧
      EvT K tt (roOf as 0 ((Fg d (wipeS φ vs)).getD [])) (csOf as 0 φ ++ xs) ((okB (C ((Fg d (wipeS φ vs)).getD []))).getD false) ∧ ((okB (C ((Fg d (wipeS φ vs)).getD []))).getD false = true → EvB K tb (roOf as 0 ((Fg d (wipeS φ vs)).getD [])) (csOf as 0 φ ++ xs) ((lcB Fg C B (wipeS φ vs) d).getD [])) := by
  obtain ⟨h1, rfl⟩ := lcFl_some h
  refine ⟨filter_flat fun d hd => ⟨fun _ => rfl, fun z => ?_⟩, fun d hd => ?_⟩
  · obtain ⟨es, e⟩ := h1 d hd
    rw [e]
    exact (lcB_ok hg hc hb xo e).2.2.1 z
  · obtain ⟨es, e⟩ := h1 d hd
    obtain ⟨z1, z2, z3, z4⟩ := lcB_ok hg hc hb xo e
    rw [e]
    exact ⟨z1, z2, z4⟩
theorem bf_loop (hi : IF K W bs ε wi I) (hg : GF K g Fg js) (hj : ∀ j ∈ js, j ∈ vs) (hc : TF K W bs ε tt C) (hb : BF K W bs ε tb B) : BF K W bs ε (fun D => tLoop wi g tt vs (tb D)) (bLoop I Fg C vs B) := fun as xs φ es xo h => by
  unfold bLoop at h
  split at h
  · rename_i ds e
    obtain ⟨rfl, key⟩ := lcF_all hg hc hb xo h
    rcases hi ε.bo as xs φ _ xo e with ⟨_, hI⟩ | ⟨j, z, _⟩
    · exact eb_loop hI (fun d hd => (key d hd).1) hj (fun d hd => (key d hd).2.1) fun d hd => (key d hd).2.2
    · cases z
  · cases h
theorem ef_lcN (hi : IF K W bs ε wi I) (hg : GF K g Fg js) (hj : ∀ j ∈ js, j ∈ vs) (hc : TF K W bs ε tt C) (hb : BF K W bs ε tb B) : EF K W bs ε (tLcN wi g tt vs tb) (fLcN I Fg C vs B) := fun as xs φ r xo h => by
  unfold fLcN at h
  split at h
  · rename_i ds src e
    split at h
    · rename_i es hgo
      split at h
      · rename_i hl
        cases h
        obtain ⟨rfl, key⟩ := lcF_all hg hc hb xo hgo
        have hI : ∃ src', EvI K wi (roOf as 0 φ) (csOf as 0 φ ++ xs) src' ds := by
          rcases hi ε.bo as xs φ _ xo e with ⟨_, h⟩ | ⟨j, _, _, h⟩
          · exact ⟨_, h⟩
          · exact ⟨_, h⟩
        obtain ⟨src', hI⟩ := hI
        exact EvN.m (en_lcN hI (fun d hd => (key d hd).1) hj (fun d hd => (key d hd).2.1) (fun d hd => (key d hd).2.2) hl)
      · cases h
    · cases h
  · cases h
theorem ef_lc3 {w0 w1 w2 : TI} {g0 g1 g2 : TG} {t0 t1 t2 : TT} {I0 I1 I2 : FI} {G0 G1 G2 : FG} {C0 C1 C2 : FE} {j0 j1 j2 v0 v1 v2 : List Nat} (hi : IF K W bs ε w0 I0) (hg : GF K g0 G0 j0) (hj : ∀ j ∈ j0, j ∈ v0) (hc : TF K W bs ε t0 C0)
    (hi1 : IF K W bs ε w1 I1) (hg1 : GF K g1 G1 j1) (hj1 : ∀ j ∈ j1, j ∈ v1) (hc1 : TF K W bs ε t1 C1) (hi2 : IF K W bs ε w2 I2) (hg2 : GF K g2 G2 j2) (hj2 : ∀ j ∈ j2, j ∈ v2) (hc2 : TF K W bs ε t2 C2) (he : EF K W bs ε te E) :
    EF K W bs ε (tLc3 w0 g0 t0 w1 g1 t1 w2 g2 t2 te v0 v1 v2) (fLcN I0 G0 C0 v0 (bLoop I1 G1 C1 v1 (bLoop I2 G2 C2 v2 (bApp E)))) :=
  ef_lcN hi hg hj hc (bf_loop hi1 hg1 hj1 hc1 (bf_loop hi2 hg2 hj2 hc2 (bf_app he)))
theorem ef_lc1 {w0 : TI} {g0 : TG} {t0 : TT} {I0 : FI} {G0 : FG} {C0 : FE} {j0 v0 : List Nat} (hi : IF K W bs ε w0 I0) (hg : GF K g0 G0 j0) (hj : ∀ j ∈ j0, j ∈ v0) (hc : TF K W bs ε t0 C0) (he : EF K W bs ε te E) :
    EF K W bs ε (tLc1 w0 g0 t0 te v0) (fLcN I0 G0 C0 v0 (bApp E)) := ef_lcN hi hg hj hc (bf_app he)
end
/-! in use -/
section
variable {α : Type} {ii : FI} {gg : FG} {c el : FE} {vs : List Nat} {b : FB} {φ φ1 : Fs} {xs : List α} {enc : α → D} {v : α → List D} {d e : D}
theorem r_lcN (h : ∃ s, ii φ = some (.ok (xs.map enc) s)) (hl : (xs.flatMap v).length ≤ 100000) (hx : ∀ x ∈ xs, lcB gg c b (wipeS φ vs) (enc x) = some (v x)) : fLcN ii gg c vs b φ = some (.ok .nw (.lst (xs.flatMap v))) := by
  obtain ⟨s, h⟩ := h
  unfold fLcN
  rw [h]
  simp only
  rw [lcFl_map hx]
  simp only
  rw [if_pos hl]
theorem r_bLoop (h : ii φ = some (.ok (xs.map enc) none)) (hx : ∀ x ∈ xs, lcB gg c b (wipeS φ vs) (enc x) = some (v x)) : bLoop ii gg c vs b φ = some (xs.flatMap v) := by
  unfold bLoop
  rw [h]
  exact lcFl_map hx
theorem lcB_yes (hg : gg d φ = some φ1) (hc : okB (c φ1) = some true) : lcB gg c b φ d = b φ1 := by
  unfold lcB
  rw [hg]
  simp only
  rw [hc]
theorem bApp_v (h : okV (el φ) = some e) : bApp el φ = some [e] := by
  unfold bApp
  rw [h]
  rfl
end
end Lv

/-! raise X(e) inside a try -/
namespace Lv
open PySem PySem.Spec PyProof.Rows L2
theorem ps_raiseFT {X : Cx} {W : WX} {pn : List (Addr × Obj)} {xe : Value → Shared → Prop} {e : Expr} {ta : TA} {p pos rpos : Pos} {x f : Str} {C : Addr} {k : Nat} (tk : L2N.Takes (X.tr pn xe) W) (T : Xc X.prog X.w X.K X.mg X.base x f C) (hr : Room k X.A) (ha : PA (X.tr pn xe) [e] ta) (hc : X.calm = true := by rfl) (hk : 2 ≤ k := by decide) (hg : Gl X x := by rfl)
    (hdb : (x == ("__debug__" : Str)) = false := by decide) (hst : starEach [e] X.env = (false, eval e X.env) :: starEach [] X.env := by rfl) (hpl : (backTo pos (starEach [] X.env)).any (·.1) = false := by rfl) :
    PS (X.tr pn xe) (.Raise (some (.Call (.Name x p) [e] [] pos)) none rpos) (fun _ σ H => tMkO C (spXI X.K f) [] ta σ H fun cls d H' => W cls d σ H') :=
  L2N.ps_raise (X := X.tr pn xe) hc tk (pmk_oexF (X := X.tr pn xe) T hr ha hk hg hdb hst hpl)
end Lv

namespace Pf
open PySem L2 Lv
open Classical
structure Kf (K : PySem.W.Frag) : Prop where
  ec_BadAhead : Ec K (ga K "BadAhead")
  nf_BadAhead_ahead : PySem.W.findIn K (.ref (ga K "BadAhead")) "ahead" = some none
  exm_BadAhead_VoiceError : PySem.W.exmOne K (.ref (ga K "BadAhead")) (.ref (ga K "VoiceError")) = some true
  kit_BadAhead_BadAhead : PySem.W.kitOne K (.ref (ga K "BadAhead")) (.ref (ga K "BadAhead")) = some true
  kit_BadAhead_BadLine : PySem.W.kitOne K (.ref (ga K "BadAhead")) (.ref (ga K "BadLine")) = some false
  kit_BadAhead_BadName : PySem.W.kitOne K (.ref (ga K "BadAhead")) (.ref (ga K "BadName")) = some false
  kit_BadAhead_BadPlace : PySem.W.kitOne K (.ref (ga K "BadAhead")) (.ref (ga K "BadPlace")) = some false
  kit_BadAhead_BadRule : PySem.W.kitOne K (.ref (ga K "BadAhead")) (.ref (ga K "BadRule")) = some false
  kit_BadAhead_BadWindow : PySem.W.kitOne K (.ref (ga K "BadAhead")) (.ref (ga K "BadWindow")) = some false
  kit_BadAhead_NoAnswer : PySem.W.kitOne K (.ref (ga K "BadAhead")) (.ref (ga K "NoAnswer")) = some false
  kit_BadAhead_NoMove : PySem.W.kitOne K (.ref (ga K "BadAhead")) (.ref (ga K "NoMove")) = some false
  kit_BadAhead_Silent : PySem.W.kitOne K (.ref (ga K "BadAhead")) (.ref (ga K "Silent")) = some false
  kit_BadAhead_SizeMismatch : PySem.W.kitOne K (.ref (ga K "BadAhead")) (.ref (ga K "SizeMismatch")) = some false
  kit_BadAhead_TooMany : PySem.W.kitOne K (.ref (ga K "BadAhead")) (.ref (ga K "TooMany")) = some false
  kit_BadAhead_Twice : PySem.W.kitOne K (.ref (ga K "BadAhead")) (.ref (ga K "Twice")) = some false
  kit_BadAhead_UnknownNote : PySem.W.kitOne K (.ref (ga K "BadAhead")) (.ref (ga K "UnknownNote")) = some false
  kit_BadAhead_UnknownPair : PySem.W.kitOne K (.ref (ga K "BadAhead")) (.ref (ga K "UnknownPair")) = some false
  kitT_BadAhead_ValueError : PySem.W.kitOne K (.ref (ga K "BadAhead")) (.type "ValueError") = some true
  ec_BadLine : Ec K (ga K "BadLine")
  nf_BadLine_number : PySem.W.findIn K (.ref (ga K "BadLine")) "number" = some none
  exm_BadLine_VoiceError : PySem.W.exmOne K (.ref (ga K "BadLine")) (.ref (ga K "VoiceError")) = some true
  kit_BadLine_BadAhead : PySem.W.kitOne K (.ref (ga K "BadLine")) (.ref (ga K "BadAhead")) = some false
  kit_BadLine_BadLine : PySem.W.kitOne K (.ref (ga K "BadLine")) (.ref (ga K "BadLine")) = some true
  kit_BadLine_BadName : PySem.W.kitOne K (.ref (ga K "BadLine")) (.ref (ga K "BadName")) = some false
  kit_BadLine_BadPlace : PySem.W.kitOne K (.ref (ga K "BadLine")) (.ref (ga K "BadPlace")) = some false
  kit_BadLine_BadRule : PySem.W.kitOne K (.ref (ga K "BadLine")) (.ref (ga K "BadRule")) = some false
  kit_BadLine_BadWindow : PySem.W.kitOne K (.ref (ga K "BadLine")) (.ref (ga K "BadWindow")) = some false
  kit_BadLine_NoAnswer : PySem.W.kitOne K (.ref (ga K "BadLine")) (.ref (ga K "NoAnswer")) = some false
  kit_BadLine_NoMove : PySem.W.kitOne K (.ref (ga K "BadLine")) (.ref (ga K "NoMove")) = some false
  kit_BadLine_Silent : PySem.W.kitOne K (.ref (ga K "BadLine")) (.ref (ga K "Silent")) = some false
  kit_BadLine_SizeMismatch : PySem.W.kitOne K (.ref (ga K "BadLine")) (.ref (ga K "SizeMismatch")) = some false
  kit_BadLine_TooMany : PySem.W.kitOne K (.ref (ga K "BadLine")) (.ref (ga K "TooMany")) = some false
  kit_BadLine_Twice : PySem.W.kitOne K (.ref (ga K "BadLine")) (.ref (ga K "Twice")) = some false
  kit_BadLine_UnknownNote : PySem.W.kitOne K (.ref (ga K "BadLine")) (.ref (ga K "UnknownNote")) = some false
  kit_BadLine_UnknownPair : PySem.W.kitOne K (.ref (ga K "BadLine")) (.ref (ga K "UnknownPair")) = some false
  kitT_BadLine_ValueError : PySem.W.kitOne K (.ref (ga K "BadLine")) (.type "ValueError") = some true
  ec_BadName : Ec K (ga K "BadName")
  nf_BadName_name : PySem.W.findIn K (.ref (ga K "BadName")) "name" = some none
  exm_BadName_VoiceError : PySem.W.exmOne K (.ref (ga K "BadName")) (.ref (ga K "VoiceError")) = some true
  kit_BadName_BadAhead : PySem.W.kitOne K (.ref (ga K "BadName")) (.ref (ga K "BadAhead")) = some false
  kit_BadName_BadLine : PySem.W.kitOne K (.ref (ga K "BadName")) (.ref (ga K "BadLine")) = some false
  kit_BadName_BadName : PySem.W.kitOne K (.ref (ga K "BadName")) (.ref (ga K "BadName")) = some true
  kit_BadName_BadPlace : PySem.W.kitOne K (.ref (ga K "BadName")) (.ref (ga K "BadPlace")) = some false
  kit_BadName_BadRule : PySem.W.kitOne K (.ref (ga K "BadName")) (.ref (ga K "BadRule")) = some false
  kit_BadName_BadWindow : PySem.W.kitOne K (.ref (ga K "BadName")) (.ref (ga K "BadWindow")) = some false
  kit_BadName_NoAnswer : PySem.W.kitOne K (.ref (ga K "BadName")) (.ref (ga K "NoAnswer")) = some false
  kit_BadName_NoMove : PySem.W.kitOne K (.ref (ga K "BadName")) (.ref (ga K "NoMove")) = some false
  kit_BadName_Silent : PySem.W.kitOne K (.ref (ga K "BadName")) (.ref (ga K "Silent")) = some false
  kit_BadName_SizeMismatch : PySem.W.kitOne K (.ref (ga K "BadName")) (.ref (ga K "SizeMismatch")) = some false
  kit_BadName_TooMany : PySem.W.kitOne K (.ref (ga K "BadName")) (.ref (ga K "TooMany")) = some false
  kit_BadName_Twice : PySem.W.kitOne K (.ref (ga K "BadName")) (.ref (ga K "Twice")) = some false
  kit_BadName_UnknownNote : PySem.W.kitOne K (.ref (ga K "BadName")) (.ref (ga K "UnknownNote")) = some false
  kit_BadName_UnknownPair : PySem.W.kitOne K (.ref (ga K "BadName")) (.ref (ga K "UnknownPair")) = some false
  kitT_BadName_ValueError : PySem.W.kitOne K (.ref (ga K "BadName")) (.type "ValueError") = some true
  ec_BadPlace : Ec K (ga K "BadPlace")
  nf_BadPlace_place : PySem.W.findIn K (.ref (ga K "BadPlace")) "place" = some none
  exm_BadPlace_VoiceError : PySem.W.exmOne K (.ref (ga K "BadPlace")) (.ref (ga K "VoiceError")) = some true
  kit_BadPlace_BadAhead : PySem.W.kitOne K (.ref (ga K "BadPlace")) (.ref (ga K "BadAhead")) = some false
  kit_BadPlace_BadLine : PySem.W.kitOne K (.ref (ga K "BadPlace")) (.ref (ga K "BadLine")) = some false
  kit_BadPlace_BadName : PySem.W.kitOne K (.ref (ga K "BadPlace")) (.ref (ga K "BadName")) = some false
  kit_BadPlace_BadPlace : PySem.W.kitOne K (.ref (ga K "BadPlace")) (.ref (ga K "BadPlace")) = some true
  kit_BadPlace_BadRule : PySem.W.kitOne K (.ref (ga K "BadPlace")) (.ref (ga K "BadRule")) = some false
  kit_BadPlace_BadWindow : PySem.W.kitOne K (.ref (ga K "BadPlace")) (.ref (ga K "BadWindow")) = some false
  kit_BadPlace_NoAnswer : PySem.W.kitOne K (.ref (ga K "BadPlace")) (.ref (ga K "NoAnswer")) = some false
  kit_BadPlace_NoMove : PySem.W.kitOne K (.ref (ga K "BadPlace")) (.ref (ga K "NoMove")) = some false
  kit_BadPlace_Silent : PySem.W.kitOne K (.ref (ga K "BadPlace")) (.ref (ga K "Silent")) = some false
  kit_BadPlace_SizeMismatch : PySem.W.kitOne K (.ref (ga K "BadPlace")) (.ref (ga K "SizeMismatch")) = some false
  kit_BadPlace_TooMany : PySem.W.kitOne K (.ref (ga K "BadPlace")) (.ref (ga K "TooMany")) = some false
  kit_BadPlace_Twice : PySem.W.kitOne K (.ref (ga K "BadPlace")) (.ref (ga K "Twice")) = some false
  kit_BadPlace_UnknownNote : PySem.W.kitOne K (.ref (ga K "BadPlace")) (.ref (ga K "UnknownNote")) = some false
  kit_BadPlace_UnknownPair : PySem.W.kitOne K (.ref (ga K "BadPlace")) (.ref (ga K "UnknownPair")) = some false
  kitT_BadPlace_ValueError : PySem.W.kitOne K (.ref (ga K "BadPlace")) (.type "ValueError") = some true
  ec_BadRule : Ec K (ga K "BadRule")
  nf_BadRule_rule : PySem.W.findIn K (.ref (ga K "BadRule")) "rule" = some none
  exm_BadRule_VoiceError : PySem.W.exmOne K (.ref (ga K "BadRule")) (.ref (ga K "VoiceError")) = some true
  kit_BadRule_BadAhead : PySem.W.kitOne K (.ref (ga K "BadRule")) (.ref (ga K "BadAhead")) = some false
  kit_BadRule_BadLine : PySem.W.kitOne K (.ref (ga K "BadRule")) (.ref (ga K "BadLine")) = some false
  kit_BadRule_BadName : PySem.W.kitOne K (.ref (ga K "BadRule")) (.ref (ga K "BadName")) = some false
  kit_BadRule_BadPlace : PySem.W.kitOne K (.ref (ga K "BadRule")) (.ref (ga K "BadPlace")) = some false
  kit_BadRule_BadRule : PySem.W.kitOne K (.ref (ga K "BadRule")) (.ref (ga K "BadRule")) = some true
  kit_BadRule_BadWindow : PySem.W.kitOne K (.ref (ga K "BadRule")) (.ref (ga K "BadWindow")) = some false
  kit_BadRule_NoAnswer : PySem.W.kitOne K (.ref (ga K "BadRule")) (.ref (ga K "NoAnswer")) = some false
  kit_BadRule_NoMove : PySem.W.kitOne K (.ref (ga K "BadRule")) (.ref (ga K "NoMove")) = some false
  kit_BadRule_Silent : PySem.W.kitOne K (.ref (ga K "BadRule")) (.ref (ga K "Silent")) = some false
  kit_BadRule_SizeMismatch : PySem.W.kitOne K (.ref (ga K "BadRule")) (.ref (ga K "SizeMismatch")) = some false
  kit_BadRule_TooMany : PySem.W.kitOne K (.ref (ga K "BadRule")) (.ref (ga K "TooMany")) = some false
  kit_BadRule_Twice : PySem.W.kitOne K (.ref (ga K "BadRule")) (.ref (ga K "Twice")) = some false
  kit_BadRule_UnknownNote : PySem.W.kitOne K (.ref (ga K "BadRule")) (.ref (ga K "UnknownNote")) = some false
  kit_BadRule_UnknownPair : PySem.W.kitOne K (.ref (ga K "BadRule")) (.ref (ga K "UnknownPair")) = some false
  kitT_BadRule_ValueError : PySem.W.kitOne K (.ref (ga K "BadRule")) (.type "ValueError") = some true
  ec_BadWindow : Ec K (ga K "BadWindow")
  exm_BadWindow_VoiceError : PySem.W.exmOne K (.ref (ga K "BadWindow")) (.ref (ga K "VoiceError")) = some true
  kit_BadWindow_BadAhead : PySem.W.kitOne K (.ref (ga K "BadWindow")) (.ref (ga K "BadAhead")) = some false
  kit_BadWindow_BadLine : PySem.W.kitOne K (.ref (ga K "BadWindow")) (.ref (ga K "BadLine")) = some false
  kit_BadWindow_BadName : PySem.W.kitOne K (.ref (ga K "BadWindow")) (.ref (ga K "BadName")) = some false
  kit_BadWindow_BadPlace : PySem.W.kitOne K (.ref (ga K "BadWindow")) (.ref (ga K "BadPlace")) = some false
  kit_BadWindow_BadRule : PySem.W.kitOne K (.ref (ga K "BadWindow")) (.ref (ga K "BadRule")) = some false
  kit_BadWindow_BadWindow : PySem.W.kitOne K (.ref (ga K "BadWindow")) (.ref (ga K "BadWindow")) = some true
  kit_BadWindow_NoAnswer : PySem.W.kitOne K (.ref (ga K "BadWindow")) (.ref (ga K "NoAnswer")) = some false
  kit_BadWindow_NoMove : PySem.W.kitOne K (.ref (ga K "BadWindow")) (.ref (ga K "NoMove")) = some false
  kit_BadWindow_Silent : PySem.W.kitOne K (.ref (ga K "BadWindow")) (.ref (ga K "Silent")) = some false
  kit_BadWindow_SizeMismatch : PySem.W.kitOne K (.ref (ga K "BadWindow")) (.ref (ga K "SizeMismatch")) = some false
  kit_BadWindow_TooMany : PySem.W.kitOne K (.ref (ga K "BadWindow")) (.ref (ga K "TooMany")) = some false
  kit_BadWindow_Twice : PySem.W.kitOne K (.ref (ga K "BadWindow")) (.ref (ga K "Twice")) = some false
  kit_BadWindow_UnknownNote : PySem.W.kitOne K (.ref (ga K "BadWindow")) (.ref (ga K "UnknownNote")) = some false
  kit_BadWindow_UnknownPair : PySem.W.kitOne K (.ref (ga K "BadWindow")) (.ref (ga K "UnknownPair")) = some false
  kitT_BadWindow_ValueError : PySem.W.kitOne K (.ref (ga K "BadWindow")) (.type "ValueError") = some true
  ec_NoAnswer : Ec K (ga K "NoAnswer")
  exm_NoAnswer_VoiceError : PySem.W.exmOne K (.ref (ga K "NoAnswer")) (.ref (ga K "VoiceError")) = some true
  kit_NoAnswer_BadAhead : PySem.W.kitOne K (.ref (ga K "NoAnswer")) (.ref (ga K "BadAhead")) = some false
  kit_NoAnswer_BadLine : PySem.W.kitOne K (.ref (ga K "NoAnswer")) (.ref (ga K "BadLine")) = some false
  kit_NoAnswer_BadName : PySem.W.kitOne K (.ref (ga K "NoAnswer")) (.ref (ga K "BadName")) = some false
  kit_NoAnswer_BadPlace : PySem.W.kitOne K (.ref (ga K "NoAnswer")) (.ref (ga K "BadPlace")) = some false
  kit_NoAnswer_BadRule : PySem.W.kitOne K (.ref (ga K "NoAnswer")) (.ref (ga K "BadRule")) = some false
  kit_NoAnswer_BadWindow : PySem.W.kitOne K (.ref (ga K "NoAnswer")) (.ref (ga K "BadWindow")) = some false
  kit_NoAnswer_NoAnswer : PySem.W.kitOne K (.ref (ga K "NoAnswer")) (.ref (ga K "NoAnswer")) = some true
  kit_NoAnswer_NoMove : PySem.W.kitOne K (.ref (ga K "NoAnswer")) (.ref (ga K "NoMove")) = some false
  kit_NoAnswer_Silent : PySem.W.kitOne K (.ref (ga K "NoAnswer")) (.ref (ga K "Silent")) = some false
  kit_NoAnswer_SizeMismatch : PySem.W.kitOne K (.ref (ga K "NoAnswer")) (.ref (ga K "SizeMismatch")) = some false
  kit_NoAnswer_TooMany : PySem.W.kitOne K (.ref (ga K "NoAnswer")) (.ref (ga K "TooMany")) = some false
  kit_NoAnswer_Twice : PySem.W.kitOne K (.ref (ga K "NoAnswer")) (.ref (ga K "Twice")) = some false
  kit_NoAnswer_UnknownNote : PySem.W.kitOne K (.ref (ga K "NoAnswer")) (.ref (ga K "UnknownNote")) = some false
  kit_NoAnswer_UnknownPair : PySem.W.kitOne K (.ref (ga K "NoAnswer")) (.ref (ga K "UnknownPair")) = some false
  kitT_NoAnswer_ValueError : PySem.W.kitOne K (.ref (ga K "NoAnswer")) (.type "ValueError") = some true
  ec_NoMove : Ec K (ga K "NoMove")
  exm_NoMove_VoiceError : PySem.W.exmOne K (.ref (ga K "NoMove")) (.ref (ga K "VoiceError")) = some true
  kit_NoMove_BadAhead : PySem.W.kitOne K (.ref (ga K "NoMove")) (.ref (ga K "BadAhead")) = some false
  kit_NoMove_BadLine : PySem.W.kitOne K (.ref (ga K "NoMove")) (.ref (ga K "BadLine")) = some false
  kit_NoMove_BadName : PySem.W.kitOne K (.ref (ga K "NoMove")) (.ref (ga K "BadName")) = some false
  kit_NoMove_BadPlace : PySem.W.kitOne K (.ref (ga K "NoMove")) (.ref (ga K "BadPlace")) = some false
  kit_NoMove_BadRule : PySem.W.kitOne K (.ref (ga K "NoMove")) (.ref (ga K "BadRule")) = some false
  kit_NoMove_BadWindow : PySem.W.kitOne K (.ref (ga K "NoMove")) (.ref (ga K "BadWindow")) = some false
  kit_NoMove_NoAnswer : PySem.W.kitOne K (.ref (ga K "NoMove")) (.ref (ga K "NoAnswer")) = some false
  kit_NoMove_NoMove : PySem.W.kitOne K (.ref (ga K "NoMove")) (.ref (ga K "NoMove")) = some true
  kit_NoMove_Silent : PySem.W.kitOne K (.ref (ga K "NoMove")) (.ref (ga K "Silent")) = some false
  kit_NoMove_SizeMismatch : PySem.W.kitOne K (.ref (ga K "NoMove")) (.ref (ga K "SizeMismatch")) = some false
  kit_NoMove_TooMany : PySem.W.kitOne K (.ref (ga K "NoMove")) (.ref (ga K "TooMany")) = some false
  kit_NoMove_Twice : PySem.W.kitOne K (.ref (ga K "NoMove")) (.ref (ga K "Twice")) = some false
  kit_NoMove_UnknownNote : PySem.W.kitOne K (.ref (ga K "NoMove")) (.ref (ga K "UnknownNote")) = some false
  kit_NoMove_UnknownPair : PySem.W.kitOne K (.ref (ga K "NoMove")) (.ref (ga K "UnknownPair")) = some false
  kitT_NoMove_ValueError : PySem.W.kitOne K (.ref (ga K "NoMove")) (.type "ValueError") = some true
  ec_Silent : Ec K (ga K "Silent")
  nf_Silent_voice : PySem.W.findIn K (.ref (ga K "Silent")) "voice" = some none
  exm_Silent_VoiceError : PySem.W.exmOne K (.ref (ga K "Silent")) (.ref (ga K "VoiceError")) = some true
  kit_Silent_BadAhead : PySem.W.kitOne K (.ref (ga K "Silent")) (.ref (ga K "BadAhead")) = some false
  kit_Silent_BadLine : PySem.W.kitOne K (.ref (ga K "Silent")) (.ref (ga K "BadLine")) = some false
  kit_Silent_BadName : PySem.W.kitOne K (.ref (ga K "Silent")) (.ref (ga K "BadName")) = some false
  kit_Silent_BadPlace : PySem.W.kitOne K (.ref (ga K "Silent")) (.ref (ga K "BadPlace")) = some false
  kit_Silent_BadRule : PySem.W.kitOne K (.ref (ga K "Silent")) (.ref (ga K "BadRule")) = some false
  kit_Silent_BadWindow : PySem.W.kitOne K (.ref (ga K "Silent")) (.ref (ga K "BadWindow")) = some false
  kit_Silent_NoAnswer : PySem.W.kitOne K (.ref (ga K "Silent")) (.ref (ga K "NoAnswer")) = some false
  kit_Silent_NoMove : PySem.W.kitOne K (.ref (ga K "Silent")) (.ref (ga K "NoMove")) = some false
  kit_Silent_Silent : PySem.W.kitOne K (.ref (ga K "Silent")) (.ref (ga K "Silent")) = some true
  kit_Silent_SizeMismatch : PySem.W.kitOne K (.ref (ga K "Silent")) (.ref (ga K "SizeMismatch")) = some false
  kit_Silent_TooMany : PySem.W.kitOne K (.ref (ga K "Silent")) (.ref (ga K "TooMany")) = some false
  kit_Silent_Twice : PySem.W.kitOne K (.ref (ga K "Silent")) (.ref (ga K "Twice")) = some false
  kit_Silent_UnknownNote : PySem.W.kitOne K (.ref (ga K "Silent")) (.ref (ga K "UnknownNote")) = some false
  kit_Silent_UnknownPair : PySem.W.kitOne K (.ref (ga K "Silent")) (.ref (ga K "UnknownPair")) = some false
  kitT_Silent_ValueError : PySem.W.kitOne K (.ref (ga K "Silent")) (.type "ValueError") = some true
  ec_SizeMismatch : Ec K (ga K "SizeMismatch")
  exm_SizeMismatch_VoiceError : PySem.W.exmOne K (.ref (ga K "SizeMismatch")) (.ref (ga K "VoiceError")) = some true
  kit_SizeMismatch_BadAhead : PySem.W.kitOne K (.ref (ga K "SizeMismatch")) (.ref (ga K "BadAhead")) = some false
  kit_SizeMismatch_BadLine : PySem.W.kitOne K (.ref (ga K "SizeMismatch")) (.ref (ga K "BadLine")) = some false
  kit_SizeMismatch_BadName : PySem.W.kitOne K (.ref (ga K "SizeMismatch")) (.ref (ga K "BadName")) = some false
  kit_SizeMismatch_BadPlace : PySem.W.kitOne K (.ref (ga K "SizeMismatch")) (.ref (ga K "BadPlace")) = some false
  kit_SizeMismatch_BadRule : PySem.W.kitOne K (.ref (ga K "SizeMismatch")) (.ref (ga K "BadRule")) = some false
  kit_SizeMismatch_BadWindow : PySem.W.kitOne K (.ref (ga K "SizeMismatch")) (.ref (ga K "BadWindow")) = some false
  kit_SizeMismatch_NoAnswer : PySem.W.kitOne K (.ref (ga K "SizeMismatch")) (.ref (ga K "NoAnswer")) = some false
  kit_SizeMismatch_NoMove : PySem.W.kitOne K (.ref (ga K "SizeMismatch")) (.ref (ga K "NoMove")) = some false
  kit_SizeMismatch_Silent : PySem.W.kitOne K (.ref (ga K "SizeMismatch")) (.ref (ga K "Silent")) = some false
  kit_SizeMismatch_SizeMismatch : PySem.W.kitOne K (.ref (ga K "SizeMismatch")) (.ref (ga K "SizeMismatch")) = some true
  kit_SizeMismatch_TooMany : PySem.W.kitOne K (.ref (ga K "SizeMismatch")) (.ref (ga K "TooMany")) = some false
  kit_SizeMismatch_Twice : PySem.W.kitOne K (.ref (ga K "SizeMismatch")) (.ref (ga K "Twice")) = some false
  kit_SizeMismatch_UnknownNote : PySem.W.kitOne K (.ref (ga K "SizeMismatch")) (.ref (ga K "UnknownNote")) = some false
  kit_SizeMismatch_UnknownPair : PySem.W.kitOne K (.ref (ga K "SizeMismatch")) (.ref (ga K "UnknownPair")) = some false
  kitT_SizeMismatch_ValueError : PySem.W.kitOne K (.ref (ga K "SizeMismatch")) (.type "ValueError") = some true
  ec_TooMany : Ec K (ga K "TooMany")
  exm_TooMany_VoiceError : PySem.W.exmOne K (.ref (ga K "TooMany")) (.ref (ga K "VoiceError")) = some true
  kit_TooMany_BadAhead : PySem.W.kitOne K (.ref (ga K "TooMany")) (.ref (ga K "BadAhead")) = some false
  kit_TooMany_BadLine : PySem.W.kitOne K (.ref (ga K "TooMany")) (.ref (ga K "BadLine")) = some false
  kit_TooMany_BadName : PySem.W.kitOne K (.ref (ga K "TooMany")) (.ref (ga K "BadName")) = some false
  kit_TooMany_BadPlace : PySem.W.kitOne K (.ref (ga K "TooMany")) (.ref (ga K "BadPlace")) = some false
  kit_TooMany_BadRule : PySem.W.kitOne K (.ref (ga K "TooMany")) (.ref (ga K "BadRule")) = some false
  kit_TooMany_BadWindow : PySem.W.kitOne K (.ref (ga K "TooMany")) (.ref (ga K "BadWindow")) = some false
  kit_TooMany_NoAnswer : PySem.W.kitOne K (.ref (ga K "TooMany")) (.ref (ga K "NoAnswer")) = some false
  kit_TooMany_NoMove : PySem.W.kitOne K (.ref (ga K "TooMany")) (.ref (ga K "NoMove")) = some false
  kit_TooMany_Silent : PySem.W.kitOne K (.ref (ga K "TooMany")) (.ref (ga K "Silent")) = some false
  kit_TooMany_SizeMismatch : PySem.W.kitOne K (.ref (ga K "TooMany")) (.ref (ga K "SizeMismatch")) = some false
  kit_TooMany_TooMany : PySem.W.kitOne K (.ref (ga K "TooMany")) (.ref (ga K "TooMany")) = some true
  kit_TooMany_Twice : PySem.W.kitOne K (.ref (ga K "TooMany")) (.ref (ga K "Twice")) = some false
  kit_TooMany_UnknownNote : PySem.W.kitOne K (.ref (ga K "TooMany")) (.ref (ga K "UnknownNote")) = some false
  kit_TooMany_UnknownPair : PySem.W.kitOne K (.ref (ga K "TooMany")) (.ref (ga K "UnknownPair")) = some false
  kitT_TooMany_ValueError : PySem.W.kitOne K (.ref (ga K "TooMany")) (.type "ValueError") = some true
  ec_Twice : Ec K (ga K "Twice")
  nf_Twice_name : PySem.W.findIn K (.ref (ga K "Twice")) "name" = some none
  exm_Twice_VoiceError : PySem.W.exmOne K (.ref (ga K "Twice")) (.ref (ga K "VoiceError")) = some true
  kit_Twice_BadAhead : PySem.W.kitOne K (.ref (ga K "Twice")) (.ref (ga K "BadAhead")) = some false
  kit_Twice_BadLine : PySem.W.kitOne K (.ref (ga K "Twice")) (.ref (ga K "BadLine")) = some false
  kit_Twice_BadName : PySem.W.kitOne K (.ref (ga K "Twice")) (.ref (ga K "BadName")) = some false
  kit_Twice_BadPlace : PySem.W.kitOne K (.ref (ga K "Twice")) (.ref (ga K "BadPlace")) = some false
  kit_Twice_BadRule : PySem.W.kitOne K (.ref (ga K "Twice")) (.ref (ga K "BadRule")) = some false
  kit_Twice_BadWindow : PySem.W.kitOne K (.ref (ga K "Twice")) (.ref (ga K "BadWindow")) = some false
  kit_Twice_NoAnswer : PySem.W.kitOne K (.ref (ga K "Twice")) (.ref (ga K "NoAnswer")) = some false
  kit_Twice_NoMove : PySem.W.kitOne K (.ref (ga K "Twice")) (.ref (ga K "NoMove")) = some false
  kit_Twice_Silent : PySem.W.kitOne K (.ref (ga K "Twice")) (.ref (ga K "Silent")) = some false
  kit_Twice_SizeMismatch : PySem.W.kitOne K (.ref (ga K "Twice")) (.ref (ga K "SizeMismatch")) = some false
  kit_Twice_TooMany : PySem.W.kitOne K (.ref (ga K "Twice")) (.ref (ga K "TooMany")) = some false
  kit_Twice_Twice : PySem.W.kitOne K (.ref (ga K "Twice")) (.ref (ga K "Twice")) = some true
  kit_Twice_UnknownNote : PySem.W.kitOne K (.ref (ga K "Twice")) (.ref (ga K "UnknownNote")) = some false
  kit_Twice_UnknownPair : PySem.W.kitOne K (.ref (ga K "Twice")) (.ref (ga K "UnknownPair")) = some false
  kitT_Twice_ValueError : PySem.W.kitOne K (.ref (ga K "Twice")) (.type "ValueError") = some true
  ec_UnknownNote : Ec K (ga K "UnknownNote")
  nf_UnknownNote_note : PySem.W.findIn K (.ref (ga K "UnknownNote")) "note" = some none
  exm_UnknownNote_VoiceError : PySem.W.exmOne K (.ref (ga K "UnknownNote")) (.ref (ga K "VoiceError")) = some true
  kit_UnknownNote_BadAhead : PySem.W.kitOne K (.ref (ga K "UnknownNote")) (.ref (ga K "BadAhead")) = some false
  kit_UnknownNote_BadLine : PySem.W.kitOne K (.ref (ga K "UnknownNote")) (.ref (ga K "BadLine")) = some false
  kit_UnknownNote_BadName : PySem.W.kitOne K (.ref (ga K "UnknownNote")) (.ref (ga K "BadName")) = some false
  kit_UnknownNote_BadPlace : PySem.W.kitOne K (.ref (ga K "UnknownNote")) (.ref (ga K "BadPlace")) = some false
  kit_UnknownNote_BadRule : PySem.W.kitOne K (.ref (ga K "UnknownNote")) (.ref (ga K "BadRule")) = some false
  kit_UnknownNote_BadWindow : PySem.W.kitOne K (.ref (ga K "UnknownNote")) (.ref (ga K "BadWindow")) = some false
  kit_UnknownNote_NoAnswer : PySem.W.kitOne K (.ref (ga K "UnknownNote")) (.ref (ga K "NoAnswer")) = some false
  kit_UnknownNote_NoMove : PySem.W.kitOne K (.ref (ga K "UnknownNote")) (.ref (ga K "NoMove")) = some false
  kit_UnknownNote_Silent : PySem.W.kitOne K (.ref (ga K "UnknownNote")) (.ref (ga K "Silent")) = some false
  kit_UnknownNote_SizeMismatch : PySem.W.kitOne K (.ref (ga K "UnknownNote")) (.ref (ga K "SizeMismatch")) = some false
  kit_UnknownNote_TooMany : PySem.W.kitOne K (.ref (ga K "UnknownNote")) (.ref (ga K "TooMany")) = some false
  kit_UnknownNote_Twice : PySem.W.kitOne K (.ref (ga K "UnknownNote")) (.ref (ga K "Twice")) = some false
  kit_UnknownNote_UnknownNote : PySem.W.kitOne K (.ref (ga K "UnknownNote")) (.ref (ga K "UnknownNote")) = some true
  kit_UnknownNote_UnknownPair : PySem.W.kitOne K (.ref (ga K "UnknownNote")) (.ref (ga K "UnknownPair")) = some false
  kitT_UnknownNote_ValueError : PySem.W.kitOne K (.ref (ga K "UnknownNote")) (.type "ValueError") = some true
  ec_UnknownPair : Ec K (ga K "UnknownPair")
  nf_UnknownPair_pair : PySem.W.findIn K (.ref (ga K "UnknownPair")) "pair" = some none
  exm_UnknownPair_VoiceError : PySem.W.exmOne K (.ref (ga K "UnknownPair")) (.ref (ga K "VoiceError")) = some true
  kit_UnknownPair_BadAhead : PySem.W.kitOne K (.ref (ga K "UnknownPair")) (.ref (ga K "BadAhead")) = some false
  kit_UnknownPair_BadLine : PySem.W.kitOne K (.ref (ga K "UnknownPair")) (.ref (ga K "BadLine")) = some false
  kit_UnknownPair_BadName : PySem.W.kitOne K (.ref (ga K "UnknownPair")) (.ref (ga K "BadName")) = some false
  kit_UnknownPair_BadPlace : PySem.W.kitOne K (.ref (ga K "UnknownPair")) (.ref (ga K "BadPlace")) = some false
  kit_UnknownPair_BadRule : PySem.W.kitOne K (.ref (ga K "UnknownPair")) (.ref (ga K "BadRule")) = some false
  kit_UnknownPair_BadWindow : PySem.W.kitOne K (.ref (ga K "UnknownPair")) (.ref (ga K "BadWindow")) = some false
  kit_UnknownPair_NoAnswer : PySem.W.kitOne K (.ref (ga K "UnknownPair")) (.ref (ga K "NoAnswer")) = some false
  kit_UnknownPair_NoMove : PySem.W.kitOne K (.ref (ga K "UnknownPair")) (.ref (ga K "NoMove")) = some false
  kit_UnknownPair_Silent : PySem.W.kitOne K (.ref (ga K "UnknownPair")) (.ref (ga K "Silent")) = some false
  kit_UnknownPair_SizeMismatch : PySem.W.kitOne K (.ref (ga K "UnknownPair")) (.ref (ga K "SizeMismatch")) = some false
  kit_UnknownPair_TooMany : PySem.W.kitOne K (.ref (ga K "UnknownPair")) (.ref (ga K "TooMany")) = some false
  kit_UnknownPair_Twice : PySem.W.kitOne K (.ref (ga K "UnknownPair")) (.ref (ga K "Twice")) = some false
  kit_UnknownPair_UnknownNote : PySem.W.kitOne K (.ref (ga K "UnknownPair")) (.ref (ga K "UnknownNote")) = some false
  kit_UnknownPair_UnknownPair : PySem.W.kitOne K (.ref (ga K "UnknownPair")) (.ref (ga K "UnknownPair")) = some true
  kitT_UnknownPair_ValueError : PySem.W.kitOne K (.ref (ga K "UnknownPair")) (.type "ValueError") = some true
/-! ### _law_cell -/
abbrev N__law_cell : List Str := ["_law_script", "_law_k"]
noncomputable def B__law_cell (K : PySem.W.Frag) : FS :=
  (fSeq (fIf (fBl (fOp ltF (fVar 1) (fCB lenF (fCons (fVar 0) fNil)))) (fRet (fOp ixF (fVar 0) (fVar 1))) fNext)
  (fRet (fC (.int 0))))
noncomputable def F__law_cell (K : PySem.W.Frag) : List D → Option Out := runF N__law_cell 2 (B__law_cell K)
theorem len__law_cell {K : PySem.W.Frag} : ∀ ds o, F__law_cell K ds = some o → ds.length = 2 := fun _ _ h => runF_len h
theorem u__law_cell (K : PySem.W.Frag) (d0 d1 : D) : F__law_cell K [d0, d1] = (B__law_cell K [.pl d0, .pl d1]).bind brO := rfl
/-! ### _law_digits -/
abbrev N__law_digits : List Str := ["_law_script", "_law_k", "_law_count", "_law_cell_here", "_law_rest", "_law_row", "_law_j", "_law_mixed"]
noncomputable def B__law_digits (K : PySem.W.Frag) : FS :=
  (fSeq (fSet 3 (fCall (F__law_cell K) (fCons (fVar 0) (fCons (fVar 1) fNil))))
  (fSeq (fSet 4 (fVar 3))
  (fSeq (fIf (fBl (fOp ltF (fVar 3) (fOp powF (fC (.int 10)) (fC (.int 18))))) (fSet 4 (fC (.int 0))) fNext)
  (fSeq (fSetN 5 (fLst fNil))
  (fSeq (fFor (iRng1F (fCons (fVar 2) fNil)) (gN 6) (fWipe [6, 7] (fIf (fBl (fOp gtF (fVar 4) (fC (.int 0)))) (fSeq (fApp 5 (fOp modF (fCB intF (fCons (fVar 4) fNil)) (fC (.int 12))))
  (fSet 4 (fOp divF (fVar 4) (fC (.int 12))))) (fSeq (fSet 7 (fOp modF (fCB intF (fCons (fOp mulF (fVar 3) (fOp addF (fOp addF (fC (.int 48271)) (fOp mulF (fC (.int 69621)) (fVar 6))) (fOp mulF (fC (.int 7919)) (fVar 1)))) fNil)) (fC (.int 2147483647))))
  (fSeq (fSet 7 (fOp modF (fCB intF (fCons (fOp addF (fOp mulF (fVar 7) (fVar 7)) (fOp mulF (fC (.int 40503)) (fVar 7))) fNil)) (fC (.int 1000003))))
  (fApp 5 (fOp modF (fCB intF (fCons (fOp divF (fVar 7) (fC (.int 11))) fNil)) (fC (.int 12)))))))))
  (fRet (fVar 5)))))))
noncomputable def F__law_digits (K : PySem.W.Frag) : List D → Option Out := runF N__law_digits 3 (B__law_digits K)
theorem len__law_digits {K : PySem.W.Frag} : ∀ ds o, F__law_digits K ds = some o → ds.length = 3 := fun _ _ h => runF_len h
theorem u__law_digits (K : PySem.W.Frag) (d0 d1 d2 : D) : F__law_digits K [d0, d1, d2] = (B__law_digits K [.pl d0, .pl d1, .pl d2, .no, .no, .no, .no, .no]).bind brO := rfl
/-! ### _law_names -/
abbrev N__law_names : List Str := ["_law_script", "_law_k", "_law_count", "_law_signs", "_law_digits_here", "_law_left", "_law_right", "_law_names_here", "_law_j", "_law_name"]
noncomputable def B__law_names (K : PySem.W.Frag) : FS :=
  (fSeq (fSet 3 (fC (.str "aZ3bY7cX1dW9eV5fU2gT8hS4iR6jQ0kPlOmNnMoLpKqJrIsHtGuFvEwDxCyBzA")))
  (fSeq (fSet 4 (fCall (F__law_digits K) (fCons (fVar 0) (fCons (fVar 1) (fCons (fC (.int 12)) fNil)))))
  (fSeq (fSet 5 (fJoin (fC (.str "")) (fLc (iRng1F (fCons (fOp modF (fCB intF (fCons (fOp ixF (fVar 4) (fC (.int 0))) fNil)) (fC (.int 4))) fNil)) (gN 8) fYes (fOp ixF (fVar 3) (fOp modF (fCB intF (fCons (fOp addF (fOp mulF (fC (.int 5)) (fOp ixF (fVar 4) (fOp addF (fC (.int 4)) (fVar 8)))) (fOp mulF (fC (.int 11)) (fVar 8))) fNil)) (fC (.int 62)))) [8])))
  (fSeq (fSet 6 (fJoin (fC (.str "")) (fLc (iRng1F (fCons (fOp modF (fCB intF (fCons (fOp ixF (fVar 4) (fC (.int 1))) fNil)) (fC (.int 5))) fNil)) (gN 8) fYes (fOp ixF (fVar 3) (fOp modF (fCB intF (fCons (fOp addF (fOp mulF (fC (.int 5)) (fOp ixF (fVar 4) (fOp addF (fC (.int 7)) (fVar 8)))) (fOp mulF (fC (.int 17)) (fVar 8))) fNil)) (fC (.int 62)))) [8])))
  (fSeq (fSetN 7 (fLst fNil))
  (fSeq (fFor (iRng1F (fCons (fVar 2) fNil)) (gN 8) (fWipe [8, 9] (fSeq (fSet 9 (fOp addF (fVar 5) (fOp ixF (fVar 3) (fOp modF (fCB intF (fCons (fOp addF (fOp addF (fOp mulF (fC (.int 12)) (fOp ixF (fVar 4) (fC (.int 2)))) (fOp ixF (fVar 4) (fC (.int 3)))) (fOp mulF (fC (.int 7)) (fVar 8))) fNil)) (fC (.int 62))))))
  (fSeq (fIf (fOr (fBl (fOp eqF (fOp modF (fCB intF (fCons (fOp ixF (fVar 4) (fC (.int 11))) fNil)) (fC (.int 2))) (fC (.int 0)))) (fBl (fOp eqF (fOp modF (fCB intF (fCons (fVar 8) fNil)) (fC (.int 2))) (fC (.int 0))))) (fSet 9 (fOp addF (fVar 9) (fVar 6))) fNext)
  (fApp 7 (fVar 9))))))
  (fRet (fVar 7))))))))
noncomputable def F__law_names (K : PySem.W.Frag) : List D → Option Out := runF N__law_names 3 (B__law_names K)
theorem len__law_names {K : PySem.W.Frag} : ∀ ds o, F__law_names K ds = some o → ds.length = 3 := fun _ _ h => runF_len h
theorem u__law_names (K : PySem.W.Frag) (d0 d1 d2 : D) : F__law_names K [d0, d1, d2] = (B__law_names K [.pl d0, .pl d1, .pl d2, .no, .no, .no, .no, .no, .no, .no]).bind brO := rfl
/-! ### _law_bare -/
abbrev N__law_bare : List Str := ["_law_k", "e", "_law_kinds", "_law_j"]
noncomputable def M__law_bare_1 (K : PySem.W.Frag) : FE :=
  (fLcN (iRng1F (fCons (fC (.int 5)) fNil)) (gN 3) fYes [3] (bApp (fOp eqF (fVar 3) (fOp subF (fVar 0) (fC (.int 9))))))
noncomputable def B__law_bare (K : PySem.W.Frag) : FS :=
  (fTry K (.ref (ga K "VoiceError")) 1 (fSeq (fIf (fBl (fOp eqF (fVar 0) (fC (.int 9)))) (fRaiseO (ga K "TooMany")) fNext)
  (fSeq (fIf (fBl (fOp eqF (fVar 0) (fC (.int 10)))) (fRaiseO (ga K "SizeMismatch")) fNext)
  (fSeq (fIf (fBl (fOp eqF (fVar 0) (fC (.int 11)))) (fRaiseO (ga K "BadWindow")) fNext)
  (fSeq (fIf (fBl (fOp eqF (fVar 0) (fC (.int 12)))) (fRaiseO (ga K "NoAnswer")) fNext)
  (fRaiseO (ga K "NoMove")))))) (fSeq (fSet 2 (fLst (fCons (fIsX K 1 (.ref (ga K "TooMany"))) (fCons (fIsX K 1 (.ref (ga K "SizeMismatch"))) (fCons (fIsX K 1 (.ref (ga K "BadWindow"))) fNil)))))
  (fSeq (fSet 2 (fOp addF (fVar 2) (fLst (fCons (fIsX K 1 (.ref (ga K "NoAnswer"))) (fCons (fIsX K 1 (.ref (ga K "NoMove"))) fNil)))))
  (fSeq (fIf (fOr (fBl (fOp neF (fVar 2) (M__law_bare_1 K))) (fNot (fTru (fIsX K 1 (.ty "ValueError"))))) (fRet (fC (.bl false))) fNext)
  (fSeq (fSet 2 (fLst (fCons (fIsX K 1 (.ref (ga K "BadName"))) (fCons (fIsX K 1 (.ref (ga K "Twice"))) (fCons (fIsX K 1 (.ref (ga K "UnknownNote"))) fNil)))))
  (fSeq (fSet 2 (fOp addF (fVar 2) (fLst (fCons (fIsX K 1 (.ref (ga K "UnknownPair"))) (fCons (fIsX K 1 (.ref (ga K "BadRule"))) (fCons (fIsX K 1 (.ref (ga K "BadLine"))) fNil))))))
  (fSeq (fSet 2 (fOp addF (fVar 2) (fLst (fCons (fIsX K 1 (.ref (ga K "BadPlace"))) (fCons (fIsX K 1 (.ref (ga K "BadAhead"))) (fCons (fIsX K 1 (.ref (ga K "Silent"))) fNil))))))
  (fRet (fOp ninF (fC (.bl true)) (fVar 2))))))))))
noncomputable def F__law_bare (K : PySem.W.Frag) : List D → Option Out := runF N__law_bare 1 (B__law_bare K)
theorem len__law_bare {K : PySem.W.Frag} : ∀ ds o, F__law_bare K ds = some o → ds.length = 1 := fun _ _ h => runF_len h
theorem u__law_bare (K : PySem.W.Frag) (d0 : D) : F__law_bare K [d0] = (B__law_bare K [.pl d0, .no, .no, .no]).bind brO := rfl
/-! ### _law_raised -/
abbrev N__law_raised : List Str := ["_law_k", "_law_name", "_law_number", "e", "_law_kinds", "_law_j"]
noncomputable def M__law_raised_1 (K : PySem.W.Frag) : FE :=
  (fLcN (iRng1F (fCons (fC (.int 14)) fNil)) (gN 5) fYes [5] (bApp (fOp eqF (fVar 5) (fVar 0))))
noncomputable def B__law_raised (K : PySem.W.Frag) : FS :=
  (fTry K (.ref (ga K "VoiceError")) 3 (fSeq (fIf (fBl (fOp eqF (fVar 0) (fC (.int 0)))) (fRaiseF (ga K "BadName") "name" (fVar 1)) fNext)
  (fSeq (fIf (fBl (fOp eqF (fVar 0) (fC (.int 1)))) (fRaiseF (ga K "Twice") "name" (fVar 1)) fNext)
  (fSeq (fIf (fBl (fOp eqF (fVar 0) (fC (.int 2)))) (fRaiseF (ga K "UnknownNote") "note" (fVar 1)) fNext)
  (fSeq (fIf (fBl (fOp eqF (fVar 0) (fC (.int 3)))) (fRaiseF (ga K "UnknownPair") "pair" (fTup (fCons (fVar 1) (fCons (fVar 1) fNil)))) fNext)
  (fSeq (fIf (fBl (fOp eqF (fVar 0) (fC (.int 4)))) (fRaiseF (ga K "BadRule") "rule" (fTup (fCons (fC (.str "open")) (fCons (fVar 1) (fCons (fVar 1) fNil))))) fNext)
  (fSeq (fIf (fBl (fOp eqF (fVar 0) (fC (.int 5)))) (fRaiseF (ga K "BadLine") "number" (fVar 2)) fNext)
  (fSeq (fIf (fBl (fOp eqF (fVar 0) (fC (.int 6)))) (fRaiseF (ga K "BadPlace") "place" (fVar 2)) fNext)
  (fSeq (fIf (fBl (fOp eqF (fVar 0) (fC (.int 7)))) (fRaiseF (ga K "BadAhead") "ahead" (fVar 2)) fNext)
  (fSeq (fIf (fBl (fOp eqF (fVar 0) (fC (.int 8)))) (fRaiseF (ga K "Silent") "voice" (fLst (fCons (fVar 1) fNil))) fNext)
  (fRet (fCall (F__law_bare K) (fCons (fVar 0) fNil)))))))))))) (fSeq (fSet 4 (fLst (fCons (fIsX K 3 (.ref (ga K "BadName"))) (fCons (fIsX K 3 (.ref (ga K "Twice"))) (fCons (fIsX K 3 (.ref (ga K "UnknownNote"))) fNil)))))
  (fSeq (fSet 4 (fOp addF (fVar 4) (fLst (fCons (fIsX K 3 (.ref (ga K "UnknownPair"))) (fCons (fIsX K 3 (.ref (ga K "BadRule"))) (fCons (fIsX K 3 (.ref (ga K "BadLine"))) fNil))))))
  (fSeq (fSet 4 (fOp addF (fVar 4) (fLst (fCons (fIsX K 3 (.ref (ga K "BadPlace"))) (fCons (fIsX K 3 (.ref (ga K "BadAhead"))) (fCons (fIsX K 3 (.ref (ga K "Silent"))) fNil))))))
  (fSeq (fSet 4 (fOp addF (fVar 4) (fLst (fCons (fIsX K 3 (.ref (ga K "TooMany"))) (fCons (fIsX K 3 (.ref (ga K "SizeMismatch"))) (fCons (fIsX K 3 (.ref (ga K "BadWindow"))) fNil))))))
  (fSeq (fSet 4 (fOp addF (fVar 4) (fLst (fCons (fIsX K 3 (.ref (ga K "NoAnswer"))) (fCons (fIsX K 3 (.ref (ga K "NoMove"))) fNil)))))
  (fSeq (fIf (fOr (fBl (fOp neF (fVar 4) (M__law_raised_1 K))) (fNot (fTru (fIsX K 3 (.ty "ValueError"))))) (fRet (fC (.bl false))) fNext)
  (fSeq (fIf (fBl (fOp ltF (fVar 0) (fC (.int 2)))) (fRet (fOp eqF (fXf K 3 "name") (fVar 1))) fNext)
  (fSeq (fIf (fBl (fOp eqF (fVar 0) (fC (.int 2)))) (fRet (fOp eqF (fXf K 3 "note") (fVar 1))) fNext)
  (fSeq (fIf (fBl (fOp ltF (fVar 0) (fC (.int 5)))) (fRet (fIfE (fBl (fOp eqF (fVar 0) (fC (.int 3)))) (fOp eqF (fXf K 3 "pair") (fTup (fCons (fVar 1) (fCons (fVar 1) fNil)))) (fOp eqF (fXf K 3 "rule") (fTup (fCons (fC (.str "open")) (fCons (fVar 1) (fCons (fVar 1) fNil))))))) fNext)
  (fSeq (fIf (fBl (fOp ltF (fVar 0) (fC (.int 7)))) (fRet (fIfE (fBl (fOp eqF (fVar 0) (fC (.int 5)))) (fOp eqF (fXf K 3 "number") (fVar 2)) (fOp eqF (fXf K 3 "place") (fVar 2)))) fNext)
  (fRet (fIfE (fBl (fOp eqF (fVar 0) (fC (.int 7)))) (fOp eqF (fXf K 3 "ahead") (fVar 2)) (fOp eqF (fXf K 3 "voice") (fLst (fCons (fVar 1) fNil))))))))))))))))
noncomputable def F__law_raised (K : PySem.W.Frag) : List D → Option Out := runF N__law_raised 3 (B__law_raised K)
theorem len__law_raised {K : PySem.W.Frag} : ∀ ds o, F__law_raised K ds = some o → ds.length = 3 := fun _ _ h => runF_len h
theorem u__law_raised (K : PySem.W.Frag) (d0 d1 d2 : D) : F__law_raised K [d0, d1, d2] = (B__law_raised K [.pl d0, .pl d1, .pl d2, .no, .no, .no]).bind brO := rfl
/-! ### law -/
abbrev N_law : List Str := ["_law_script", "_law_names_here", "_law_number", "_law_k", "_law_name"]
noncomputable def L_law_1 (K : PySem.W.Frag) : FS :=
  (fWipe [4] (fIf (fOr (fNot (fTru (fCall (F__law_raised K) (fCons (fVar 3) (fCons (fVar 4) (fCons (fVar 2) fNil)))))) (fNot (fTru (fCall (F__law_raised K) (fCons (fVar 3) (fCons (fVar 4) (fCons (fOp subF (fC (.int 0)) (fVar 2)) fNil))))))) (fRet (fC (.bl false))) fNext))
noncomputable def L_law_2 (K : PySem.W.Frag) : FS :=
  (fWipe [3, 4] (fFor (iVarF 1) (gN 4) (L_law_1 K)))
noncomputable def B_law (K : PySem.W.Frag) : FS :=
  (fSeq (fSet 1 (fCall (F__law_names K) (fCons (fVar 0) (fCons (fC (.int 0)) (fCons (fC (.int 2)) fNil)))))
  (fSeq (fSet 2 (fOp modF (fCB intF (fCons (fCall (F__law_cell K) (fCons (fVar 0) (fCons (fC (.int 1)) fNil))) fNil)) (fOp powF (fC (.int 10)) (fC (.int 30)))))
  (fSeq (fFor (iRng1F (fCons (fC (.int 14)) fNil)) (gN 3) (L_law_2 K))
  (fRet (fC (.bl true))))))
noncomputable def F_law (K : PySem.W.Frag) : List D → Option Out := runF N_law 1 (B_law K)
theorem len_law {K : PySem.W.Frag} : ∀ ds o, F_law K ds = some o → ds.length = 1 := fun _ _ h => runF_len h
theorem u_law (K : PySem.W.Frag) (d0 : D) : F_law K [d0] = (B_law K [.pl d0, .no, .no, .no, .no]).bind brO := rfl
end Pf

namespace Pf
open PySem L2 Lv
open Classical
variable {K : PySem.W.Frag}
def mixD (c : Int) (k j : Nat) : Int :=
  let m := (c * (48271 + 69621 * (j : Int) + 7919 * (k : Int))) % 2147483647
  ((m * m + 40503 * m) % 1000003 / 11) % 12
def digS (c : Int) (k : Nat) : Nat → Int × List Int
  | 0 => (if c < 10 ^ 18 then 0 else c, [])
  | n + 1 => if 0 < (digS c k n).1 then ((digS c k n).1 / 12, (digS c k n).2 ++ [(digS c k n).1 % 12]) else ((digS c k n).1, (digS c k n).2 ++ [mixD c k n])
def digL (ns : List Int) (k n : Nat) : List Int := (digS (ns.getD k 0) k n).2
theorem digS_len (c : Int) (k : Nat) : ∀ n, (digS c k n).2.length = n
  | 0 => rfl
  | n + 1 => by
    rw [digS]
    split <;> simp [digS_len c k n]
theorem digL_len (ns : List Int) (k n : Nat) : (digL ns k n).length = n := digS_len _ _ _
theorem digS_in (c : Int) (k : Nat) : ∀ n, ∀ x ∈ (digS c k n).2, 0 ≤ x ∧ x < 12
  | 0, x, h => by simp [digS] at h
  | n + 1, x, h => by
    rw [digS] at h
    split at h
    · rcases List.mem_append.mp h with h | h
      · exact digS_in c k n x h
      · rw [List.mem_singleton] at h; subst h; omega
    · rcases List.mem_append.mp h with h | h
      · exact digS_in c k n x h
      · rw [List.mem_singleton] at h; subst h; unfold mixD; simp only; omega
theorem digL_in {ns : List Int} {k n : Nat} {x : Int} (h : x ∈ digL ns k n) : 0 ≤ x ∧ x < 12 := digS_in _ _ _ x h
theorem f_cell (ns : List Int) (k : Nat) : F__law_cell K [.scr ns, .int k] = some (.ret (.int (ns.getD k 0))) := by
  rw [u__law_cell]
  unfold B__law_cell
  simp
  by_cases h : k < ns.length
  · have : atI ns (k : Int) = some ns[k] := atI_nat' (by simp [h])
    simp [h, this]
  · simp [h]
theorem f_digits (ns : List Int) (k n : Nat) (hk : k ≤ 1000) (hn : n ≤ 1000) : F__law_digits K [.scr ns, .int k, .int n] = some (.new ((digL ns k n).map D.int)) := by
  rw [u__law_digits]
  unfold B__law_digits
  have hc := call_ret (A := F__law_cell K) (ks := [(.pl, .scr ns), (.pl, .int k)]) (f_cell ns k) rfl
  unfold digL
  generalize ns.getD k 0 = c at hc ⊢
  let R : Nat → Fs := fun i => [.pl (.scr ns), .pl (.int k), .pl (.int n), .pl (.int c), .pl (.int (digS c k i).1), .ow (.lst ((digS c k i).2.map D.int)), .no, .no]
  have hn2 : (-100000 : Int) ≤ n ∧ (n : Int) ≤ 100000 := by omega
  have loop : ∀ all, forGo (gN 6) (fWipe [6, 7] _) all none (rngD 0 n) (R 0) = some (.nx (R n)) := fun all => forGo_rng R n (b := fWipe [6, 7] (fIf (fBl (fOp gtF (fVar 4) (fC (.int 0)))) (fSeq (fApp 5 (fOp modF (fCB intF (fCons (fVar 4) fNil)) (fC (.int 12))))
  (fSet 4 (fOp divF (fVar 4) (fC (.int 12))))) (fSeq (fSet 7 (fOp modF (fCB intF (fCons (fOp mulF (fVar 3) (fOp addF (fOp addF (fC (.int 48271)) (fOp mulF (fC (.int 69621)) (fVar 6))) (fOp mulF (fC (.int 7919)) (fVar 1)))) fNil)) (fC (.int 2147483647))))
  (fSeq (fSet 7 (fOp modF (fCB intF (fCons (fOp addF (fOp mulF (fVar 7) (fVar 7)) (fOp mulF (fC (.int 40503)) (fVar 7))) fNil)) (fC (.int 1000003))))
  (fApp 5 (fOp modF (fCB intF (fCons (fOp divF (fVar 7) (fC (.int 11))) fNil)) (fC (.int 12)))))))) fun i hi => by
    refine ⟨_, rfl, .inl ?_⟩
    have hl : (digS c k i).2.length < 100000 := by rw [digS_len]; omega
    by_cases h0 : 0 < (digS c k i).1
    · simp [R, h0, hl, digS]
    · have h1 : (48271 + 69621 * (i : Int) + 7919 * (k : Int)) < 2 ^ 64 := by omega
      generalize hm : (c * (48271 + 69621 * (i : Int) + 7919 * (k : Int))) % 2147483647 = m
      have hm0 : 0 ≤ m ∧ m < 2147483647 := by omega
      have e : mixD c k i = ((m * m + 40503 * m) % 1000003 / 11) % 12 := by unfold mixD; rw [hm]
      have a1 : -18446744073709551616 < 48271 + 69621 * (i : Int) + 7919 * (k : Int) := by omega
      have a2 : 48271 + 69621 * (i : Int) + 7919 * (k : Int) < 18446744073709551616 := by omega
      have a3 : -18446744073709551616 < m := by omega
      have a4 : m < 18446744073709551616 := by omega
      simp [R, h0, hl, digS, hm, e, a1, a2, a3, a4]
  have R0 : R 0 = [.pl (.scr ns), .pl (.int k), .pl (.int n), .pl (.int c), .pl (.int (if c < 10 ^ 18 then 0 else c)), .ow (.lst []), .no, .no] := rfl
  have hp : (10 : Int) ^ 18 = 1000000000000000000 := by decide
  rw [hp] at R0
  by_cases h : c < 1000000000000000000
  · simp only [h, if_true] at R0
    simp [hc, h, show (n : Int) ≤ 100000 by omega, show n ≤ 100000 by omega]
    rw [← R0]
    simp [loop]
    simp [R]
  · simp only [h, if_false] at R0
    simp [hc, h, show (n : Int) ≤ 100000 by omega, show n ≤ 100000 by omega]
    rw [← R0]
    simp [loop]
    simp [R]
end Pf

namespace Pf
open PySem L2 Lv
open Classical
variable {K : PySem.W.Frag}
/-- the i-th digit -/
def dig (ns : List Int) (k n i : Nat) : Nat := ((digL ns k n).getD i 0).toNat
theorem dig_lt {ns : List Int} {k n i : Nat} : dig ns k n i < 12 := by
  unfold dig
  by_cases h : i < (digL ns k n).length
  · have := digL_in (List.getElem_mem h)
    simp [h]
    omega
  · simp [h]
theorem dig_at {ns : List Int} {k n i : Nat} (h : i < n) : ((digL ns k n).map D.int)[i]? = some (.int (dig ns k n i : Nat)) := by
  have hl : i < (digL ns k n).length := by rw [digL_len]; exact h
  have := digL_in (List.getElem_mem hl)
  unfold dig
  rw [List.getElem?_map, List.getElem?_eq_getElem hl]
  simp [hl]
  omega
theorem dig_ix {ns : List Int} {k n i : Nat} {x : Int} (h : i < n) (hx : x = (i : Int)) : atI ((digL ns k n).map D.int) x = some (.int (dig ns k n i : Nat)) := by
  rw [hx]
  exact atI_nat' (dig_at h)
def mkS (l : List Nat) : Str := ⟨l.toArray⟩
theorem mkS_add (a b : List Nat) : mkS a ++ mkS b = mkS (a ++ b) := by
  show Str.mk (a.toArray ++ b.toArray) = Str.mk _
  simp
theorem mkS_len (a : List Nat) : (mkS a).length = a.length := by
  show a.toArray.size = _
  simp
theorem mkS_inj {a b : List Nat} (h : mkS a = mkS b) : a = b := by
  have h1 : (mkS a).cps = (mkS b).cps := by rw [h]
  have h2 : a.toArray = b.toArray := h1
  have := congrArg Array.toList h2
  simpa using this
theorem fold_mkS (ls : List (List Nat)) (acc : List Nat) : (ls.map mkS).foldl (fun (acc : Array Nat) p => acc ++ (Str.ofString "").cps ++ p.cps) acc.toArray = (acc ++ ls.flatten).toArray := by
  induction ls generalizing acc with
  | nil => simp
  | cons l ls ih =>
    rw [List.map_cons, List.foldl_cons]
    have e : acc.toArray ++ (Str.ofString "").cps ++ (mkS l).cps = (acc ++ l).toArray := by
      show acc.toArray ++ #[] ++ l.toArray = _
      simp
    rw [e, ih, List.flatten_cons, List.append_assoc]
theorem join_mkS (ls : List (List Nat)) : Txt.join (Str.ofString "") (ls.map mkS) = mkS ls.flatten := by
  cases ls with
  | nil => rfl
  | cons l ls =>
    show Str.mk ((ls.map mkS).foldl (fun (acc : Array Nat) p => acc ++ (Str.ofString "").cps ++ p.cps) l.toArray) = _
    rw [fold_mkS]
    rfl
theorem mkS_lenL (ls : List (List Nat)) : ((ls.map mkS).map (·.length)).sum = ls.flatten.length := by
  induction ls with
  | nil => rfl
  | cons l ls ih => rw [List.map_cons, List.map_cons, List.sum_cons, ih, mkS_len, List.flatten_cons, List.length_append]
abbrev sgS : Str := Str.ofString "aZ3bY7cX1dW9eV5fU2gT8hS4iR6jQ0kPlOmNnMoLpKqJrIsHtGuFvEwDxCyBzA"
def sgnL : List Nat := sgS.cps.toList
def sgn (i : Nat) : Nat := sgnL.getD i 0
theorem sgn_len : sgnL.length = 62 := by decide +kernel
theorem sgn_at {i : Nat} (h : i < 62) : sgnL[i]? = some (sgn i) := by
  have hl := sgn_len
  unfold sgn
  rw [List.getElem?_eq_getElem (by omega)]
  simp [List.getD, show i < sgnL.length by omega]
theorem sg_ix {i : Nat} {x : Int} (h : i < 62) (hx : x = (i : Int)) : ixF (.str sgS) (.int x) = some (.pl, .str (mkS [sgn i])) := by
  rw [x_ix_s, if_pos (by decide +kernel), hx, show sgS.cps.toList = sgnL from rfl, atI_nat' (sgn_at h)]
  rfl
theorem sgn_ok (i : Nat) : sgn i < 128 := by
  have h : sgnL.all (fun c => decide (c < 128)) = true := by decide +kernel
  unfold sgn
  by_cases hi : i < sgnL.length
  · have := List.all_eq_true.mp h _ (List.getElem_mem hi)
    simp [List.getD, hi]
    simpa using this
  · simp [List.getD, hi]
theorem sgn_inj {i j : Nat} (hi : i < 62) (hj : j < 62) (h : sgn i = sgn j) : i = j := by
  have hnd : sgnL.Nodup := by decide +kernel
  have hl := sgn_len
  have e1 := sgn_at hi
  have e2 := sgn_at hj
  rw [h] at e1
  exact (List.getElem?_inj (i := i) (j := j) (by omega) hnd).mp (e1.trans e2.symm)
def nmLeft (ns : List Int) (k : Nat) : List Nat := (List.range (dig ns k 12 0 % 4)).map fun j => sgn ((5 * dig ns k 12 (4 + j) + 11 * j) % 62)
def nmRight (ns : List Int) (k : Nat) : List Nat := (List.range (dig ns k 12 1 % 5)).map fun j => sgn ((5 * dig ns k 12 (7 + j) + 17 * j) % 62)
def nmMid (ns : List Int) (k j : Nat) : Nat := sgn ((12 * dig ns k 12 2 + dig ns k 12 3 + 7 * j) % 62)
def nmL (ns : List Int) (k j : Nat) : List Nat := nmLeft ns k ++ [nmMid ns k j] ++ (if dig ns k 12 11 % 2 = 0 ∨ j % 2 = 0 then nmRight ns k else [])
def nmS (ns : List Int) (k j : Nat) : Str := mkS (nmL ns k j)
theorem nmLeft_len {ns : List Int} {k : Nat} : (nmLeft ns k).length ≤ 3 := by
  unfold nmLeft
  rw [List.length_map, List.length_range]
  omega
theorem nmRight_len {ns : List Int} {k : Nat} : (nmRight ns k).length ≤ 4 := by
  unfold nmRight
  rw [List.length_map, List.length_range]
  omega
/-- the text that a comprehension over range(m) joins -/
theorem join_sg {f : Nat → Nat} (m : Nat) (hm : m ≤ 100) : joinF (Str.ofString "") ((List.range m).map fun j => D.str (mkS [f j])) = some (.ok .pl (.str (mkS ((List.range m).map f)))) := by
  unfold joinF
  have e : ((List.range m).map fun j => D.str (mkS [f j])) = (((List.range m).map fun j => [f j]).map mkS).map D.str := by rw [List.map_map, List.map_map]; rfl
  rw [e, strsF_map]
  have e2 : ((List.range m).map fun j => [f j]).flatten = (List.range m).map f := by
    generalize List.range m = l
    induction l with
    | nil => rfl
    | cons a l ih => rw [List.map_cons, List.flatten_cons, ih]; rfl
  show (if _ then _ else _) = _
  rw [mkS_lenL, e2, join_mkS, e2, if_pos]
  rw [List.length_map, List.length_range, List.length_map, List.length_map, List.length_range]
  show m + m * 0 ≤ _
  omega
theorem f_names (ns : List Int) (k c : Nat) (hk : k ≤ 1000) (hc : c ≤ 100) : F__law_names K [.scr ns, .int k, .int c] = some (.new ((List.range c).map fun j => .str (nmS ns k j))) := by
  rw [u__law_names]
  unfold B__law_names
  have hd := call_new (A := F__law_digits K) (ks := [(.pl, .scr ns), (.pl, .int k), (.pl, .int 12)]) (f_digits ns k 12 hk (by omega)) rfl
  have d0 := dig_ix (ns := ns) (k := k) (n := 12) (i := 0) (x := 0) (by omega) rfl
  have d1 := dig_ix (ns := ns) (k := k) (n := 12) (i := 1) (x := 1) (by omega) rfl
  have l0 : dig ns k 12 0 < 12 := dig_lt
  have l1 : dig ns k 12 1 < 12 := dig_lt
  have d2 := dig_ix (ns := ns) (k := k) (n := 12) (i := 2) (x := 2) (by omega) rfl
  have d3 := dig_ix (ns := ns) (k := k) (n := 12) (i := 3) (x := 3) (by omega) rfl
  have d11 := dig_ix (ns := ns) (k := k) (n := 12) (i := 11) (x := 11) (by omega) rfl
  have nl := nmLeft_len (ns := ns) (k := k)
  have nr := nmRight_len (ns := ns) (k := k)
  let R : Nat → Fs := fun i => [.pl (.scr ns), .pl (.int k), .pl (.int c), .pl (.str sgS), .pl (.lst ((digL ns k 12).map D.int)), .pl (.str (mkS (nmLeft ns k))), .pl (.str (mkS (nmRight ns k))), .ow (.lst ((List.range i).map fun j => .str (nmS ns k j))), .no, .no]
  refine r_fin (φ' := R c) ?_
  refine r_seq (r_set (k := .pl) (d := .str sgS) rfl) ?_
  refine r_seq (r_set (k := .nw) (d := .lst ((digL ns k 12).map D.int)) (by simp [hd])) ?_
  refine r_seq (r_set (k := .pl) (d := .str (mkS (nmLeft ns k))) ?_) ?_
  · have e := r_lc (gg := gN 8) (c := fYes) (el := fOp ixF (fVar 3) (fOp modF (fCB intF (fCons (fOp addF (fOp mulF (fC (.int 5)) (fOp ixF (fVar 4) (fOp addF (fC (.int 4)) (fVar 8)))) (fOp mulF (fC (.int 11)) (fVar 8))) fNil)) (fC (.int 62)))) (vs := [8]) (φ := [.pl (.scr ns), .pl (.int k), .pl (.int c), .pl (.str sgS), .pl (.lst ((digL ns k 12).map D.int)), .no, .no, .no, .no, .no]) (xs := List.range (dig ns k 12 0 % 4)) (v := fun j => .str (mkS [sgn ((5 * dig ns k 12 (4 + j) + 11 * j) % 62)])) ⟨none, r_rng (t := fCons (fOp modF (fCB intF (fCons (fOp ixF (fVar 4) (fC (.int 0))) fNil)) (fC (.int 4))) fNil) (n := (dig ns k 12 0 : Int) % 4) (by simp [d0]) (by omega) (by omega)⟩ (by simp; omega) (fun j hj => by
      have hj : j < dig ns k 12 0 % 4 := by simpa using hj
      have h4 := dig_ix (ns := ns) (k := k) (n := 12) (i := 4 + j) (x := 4 + (j : Int)) (by omega) (by omega)
      have hs := sg_ix (i := (5 * dig ns k 12 (4 + j) + 11 * j) % 62) (x := (5 * (dig ns k 12 (4 + j) : Int) + 11 * (j : Int)) % 62) (by omega) (by omega)
      simp [lc1_u, h4, -x_ix_s, hs])
    rw [x_join, x_c, rb_ok]
    simp only [x_sc2]
    erw [e]
    simp only [rb_ok]
    exact join_sg _ (by omega)
  refine r_seq (r_set (k := .pl) (d := .str (mkS (nmRight ns k))) ?_) ?_
  · have e := r_lc (gg := gN 8) (c := fYes) (el := fOp ixF (fVar 3) (fOp modF (fCB intF (fCons (fOp addF (fOp mulF (fC (.int 5)) (fOp ixF (fVar 4) (fOp addF (fC (.int 7)) (fVar 8)))) (fOp mulF (fC (.int 17)) (fVar 8))) fNil)) (fC (.int 62)))) (vs := [8]) (φ := [.pl (.scr ns), .pl (.int k), .pl (.int c), .pl (.str sgS), .pl (.lst ((digL ns k 12).map D.int)), .pl (.str (mkS (nmLeft ns k))), .no, .no, .no, .no]) (xs := List.range (dig ns k 12 1 % 5)) (v := fun j => .str (mkS [sgn ((5 * dig ns k 12 (7 + j) + 17 * j) % 62)])) ⟨none, r_rng (t := fCons (fOp modF (fCB intF (fCons (fOp ixF (fVar 4) (fC (.int 1))) fNil)) (fC (.int 5))) fNil) (n := (dig ns k 12 1 : Int) % 5) (by simp [d1]) (by omega) (by omega)⟩ (by simp; omega) (fun j hj => by
      have hj : j < dig ns k 12 1 % 5 := by simpa using hj
      have h4 := dig_ix (ns := ns) (k := k) (n := 12) (i := 7 + j) (x := 7 + (j : Int)) (by omega) (by omega)
      have hs := sg_ix (i := (5 * dig ns k 12 (7 + j) + 17 * j) % 62) (x := (5 * (dig ns k 12 (7 + j) : Int) + 17 * (j : Int)) % 62) (by omega) (by omega)
      simp [lc1_u, h4, -x_ix_s, hs])
    rw [x_join, x_c, rb_ok]
    simp only [x_sc2]
    erw [e]
    simp only [rb_ok]
    exact join_sg _ (by omega)
  refine r_seq (r_setN (d := .lst []) (by simp)) ?_
  refine r_seq (r_for (r_rng (m := c) (by simp) rfl (by omega)) (forGo_rngM R c fun i hi => ⟨_, rfl, .inl ?_⟩)) ?_
  · have hm := sg_ix (i := (12 * dig ns k 12 2 + dig ns k 12 3 + 7 * i) % 62) (x := (12 * (dig ns k 12 2 : Int) + (dig ns k 12 3 : Int) + 7 * (i : Int)) % 62) (by omega) (by omega)
    have e1 : mkS (nmLeft ns k) ++ mkS [nmMid ns k i] = mkS (nmLeft ns k ++ [nmMid ns k i]) := mkS_add _ _
    have e2 : mkS (nmLeft ns k ++ [nmMid ns k i]) ++ mkS (nmRight ns k) = mkS (nmLeft ns k ++ [nmMid ns k i] ++ nmRight ns k) := mkS_add _ _
    have hl : ((List.range i).map fun j => D.str (nmS ns k j)).length < 100000 := by rw [List.length_map, List.length_range]; omega
    have ln1 : (mkS (nmLeft ns k)).length + (mkS [nmMid ns k i]).length ≤ 100000 := by rw [mkS_len, mkS_len, List.length_singleton]; omega
    have ln2 : (mkS (nmLeft ns k ++ [nmMid ns k i])).length + (mkS (nmRight ns k)).length ≤ 100000 := by rw [mkS_len, mkS_len, List.length_append, List.length_singleton]; omega
    have fin : ∀ nm : List Nat, nmL ns k i = nm → R (i + 1) = [.pl (.scr ns), .pl (.int k), .pl (.int c), .pl (.str sgS), .pl (.lst ((digL ns k 12).map D.int)), .pl (.str (mkS (nmLeft ns k))), .pl (.str (mkS (nmRight ns k))), .ow (.lst (((List.range i).map fun j => .str (nmS ns k j)) ++ [.str (mkS nm)])), .no, .no] := fun nm hnm => by
      simp only [R, List.range_succ, List.map_append, List.map_cons, List.map_nil]
      unfold nmS
      rw [hnm]
    have step1 : ∀ φ : Fs, φ[3]? = some (.pl (.str sgS)) → φ[4]? = some (.pl (.lst ((digL ns k 12).map D.int))) → φ[5]? = some (.pl (.str (mkS (nmLeft ns k)))) → φ[8]? = some (.pl (.int i)) → fOp addF (fVar 5) (fOp ixF (fVar 3) (fOp modF (fCB intF (fCons (fOp addF (fOp addF (fOp mulF (fC (.int 12)) (fOp ixF (fVar 4) (fC (.int 2)))) (fOp ixF (fVar 4) (fC (.int 3)))) (fOp mulF (fC (.int 7)) (fVar 8))) fNil)) (fC (.int 62)))) φ = some (.ok .pl (.str (mkS (nmLeft ns k ++ [nmMid ns k i])))) := fun φ h3 h4 h5 h8 => by
      simp [h3, h4, h5, h8, d2, d3, -x_ix_s, hm]
      exact ⟨ln1, e1⟩
    by_cases hcase : dig ns k 12 11 % 2 = 0 ∨ i % 2 = 0
    · refine r_wipe (φ' := [.pl (.scr ns), .pl (.int k), .pl (.int c), .pl (.str sgS), .pl (.lst ((digL ns k 12).map D.int)), .pl (.str (mkS (nmLeft ns k))), .pl (.str (mkS (nmRight ns k))), .ow (.lst (((List.range i).map fun j => .str (nmS ns k j)) ++ [.str (mkS (nmLeft ns k ++ [nmMid ns k i] ++ nmRight ns k))])), .pl (.int i), .pl (.str (mkS (nmLeft ns k ++ [nmMid ns k i] ++ nmRight ns k)))]) ?_ (by rw [fin _ (by unfold nmL; rw [if_pos hcase])]; rfl)
      refine r_seq (r_set (step1 _ rfl rfl rfl rfl)) ?_
      refine r_seq (φ' := [.pl (.scr ns), .pl (.int k), .pl (.int c), .pl (.str sgS), .pl (.lst ((digL ns k 12).map D.int)), .pl (.str (mkS (nmLeft ns k))), .pl (.str (mkS (nmRight ns k))), .ow (.lst ((List.range i).map fun j => .str (nmS ns k j))), .pl (.int i), .pl (.str (mkS (nmLeft ns k ++ [nmMid ns k i] ++ nmRight ns k)))]) (r_if (b := true) (k := .pl) ?_ (fun _ => r_set (k := .pl) (d := .str (mkS (nmLeft ns k ++ [nmMid ns k i] ++ nmRight ns k))) (by simp [R]; exact ⟨ln2, by simpa using e2⟩)) (fun z => by cases z)) ?_
      · by_cases h11 : dig ns k 12 11 % 2 = 0
        · have : ((dig ns k 12 11 : Int) % 2 = 0) := by omega
          simp [R, d11, this]
        · have h1 : ¬ ((dig ns k 12 11 : Int) % 2 = 0) := by omega
          have h2 : ((i : Int) % 2 = 0) := by omega
          simp [R, d11, h1, h2]
      · exact r_app (ds := (List.range i).map fun j => .str (nmS ns k j)) rfl (k := .pl) (d := .str (mkS (nmLeft ns k ++ [nmMid ns k i] ++ nmRight ns k))) rfl rfl hl rfl
    · refine r_wipe (φ' := [.pl (.scr ns), .pl (.int k), .pl (.int c), .pl (.str sgS), .pl (.lst ((digL ns k 12).map D.int)), .pl (.str (mkS (nmLeft ns k))), .pl (.str (mkS (nmRight ns k))), .ow (.lst (((List.range i).map fun j => .str (nmS ns k j)) ++ [.str (mkS (nmLeft ns k ++ [nmMid ns k i]))])), .pl (.int i), .pl (.str (mkS (nmLeft ns k ++ [nmMid ns k i])))]) ?_ (by rw [fin _ (by unfold nmL; rw [if_neg hcase, List.append_nil])]; rfl)
      refine r_seq (r_set (step1 _ rfl rfl rfl rfl)) ?_
      refine r_seq (φ' := [.pl (.scr ns), .pl (.int k), .pl (.int c), .pl (.str sgS), .pl (.lst ((digL ns k 12).map D.int)), .pl (.str (mkS (nmLeft ns k))), .pl (.str (mkS (nmRight ns k))), .ow (.lst ((List.range i).map fun j => .str (nmS ns k j))), .pl (.int i), .pl (.str (mkS (nmLeft ns k ++ [nmMid ns k i])))]) (r_if (b := false) (k := .pl) ?_ (fun z => by cases z) (fun _ => rfl)) ?_
      · have h1 : ¬ ((dig ns k 12 11 : Int) % 2 = 0) := by omega
        have h2 : ¬ ((i : Int) % 2 = 0) := by omega
        simp [R, d11, h1, h2]
      · exact r_app (ds := (List.range i).map fun j => .str (nmS ns k j)) rfl (k := .pl) (d := .str (mkS (nmLeft ns k ++ [nmMid ns k i]))) rfl rfl hl rfl
  · exact r_ret (k := .ow) (d := .lst ((List.range c).map fun j => .str (nmS ns k j))) rfl rfl
end Pf

/-! printed by k48.py -/
namespace Pf
open PySem L2 Lv
open Classical
variable {K : PySem.W.Frag}
theorem wop : PyData.strOk ("open" : Str) = true := by decide +kernel
theorem ra_list (k : Nat) (s1 s2 s3 s4 : Sl) : M__law_raised_1 K [.pl (.int ((k : Nat) : Int)), s1, s2, s3, s4, .no] = some (.ok .nw (.lst ((List.range 14).map fun j => D.bl (decide (j = k))))) := by
  have e : ((List.range 14).map fun j => D.bl (decide (j = k))) = (List.range 14).flatMap fun j => [D.bl (decide (j = k))] := by
    induction List.range 14 with
    | nil => rfl
    | cons a l ih => rw [List.map_cons, List.flatMap_cons, ih]; rfl
  rw [e]
  unfold M__law_raised_1
  refine r_lcN (xs := List.range 14) (enc := fun (j : Nat) => D.int (j : Int)) ⟨none, ?_⟩ (by rw [← e]; simp) fun j hj => ?_
  · dsimp! []
  · rw [lcB_yes rfl rfl]
    refine bApp_v ?_
    dsimp! []
theorem rb_list (k : Nat) (hk : 9 ≤ k) (s1 s2 : Sl) : M__law_bare_1 K [.pl (.int ((k : Nat) : Int)), s1, s2, .no] = some (.ok .nw (.lst ((List.range 5).map fun j => D.bl (decide (j = k - 9))))) := by
  have e : ((List.range 5).map fun j => D.bl (decide (j = k - 9))) = (List.range 5).flatMap fun j => [D.bl (decide (j = k - 9))] := by
    induction List.range 5 with
    | nil => rfl
    | cons a l ih => rw [List.map_cons, List.flatMap_cons, ih]; rfl
  rw [e]
  unfold M__law_bare_1
  refine r_lcN (xs := List.range 5) (enc := fun (j : Nat) => D.int (j : Int)) ⟨none, ?_⟩ (by rw [← e]; simp) fun j hj => ?_
  · dsimp! []
  · rw [lcB_yes rfl rfl]
    refine bApp_v ?_
    dsimp! []

theorem f_bare9 (hk : Kf K) : F__law_bare K [.int ((9 : Nat) : Int)] = some (.ret (.bl true)) := by
  have hM := fun s1 s2 => rb_list (K := K) 9 (by omega) s1 s2
  rw [show ((List.range 5).map fun j => D.bl (decide (j = 9 - 9))) = [D.bl true, D.bl false, D.bl false, D.bl false, D.bl false] from by simp [List.range_succ]] at hM
  have hne : neF (.lst [D.bl true, D.bl false, D.bl false, D.bl false, D.bl false]) (.lst [D.bl true, D.bl false, D.bl false, D.bl false, D.bl false]) = some (.pl, .bl false) := rfl
  have hni : ninF (.bl true) (.lst [D.bl false, D.bl false, D.bl false, D.bl false, D.bl false, D.bl false, D.bl false, D.bl false, D.bl false]) = some (.pl, .bl true) := rfl
  rw [u__law_bare]
  unfold B__law_bare
  dsimp! [hM, hne, hni, decide_true, decide_false, Nat.reduceEqDiff, List.cons_append, List.nil_append, hk.exm_TooMany_VoiceError, hk.ec_TooMany, hk.kitT_TooMany_ValueError, hk.kit_TooMany_BadName, hk.kit_TooMany_Twice, hk.kit_TooMany_UnknownNote, hk.kit_TooMany_UnknownPair, hk.kit_TooMany_BadRule, hk.kit_TooMany_BadLine, hk.kit_TooMany_BadPlace, hk.kit_TooMany_BadAhead, hk.kit_TooMany_Silent, hk.kit_TooMany_TooMany, hk.kit_TooMany_SizeMismatch, hk.kit_TooMany_BadWindow, hk.kit_TooMany_NoAnswer, hk.kit_TooMany_NoMove]

theorem f_bare10 (hk : Kf K) : F__law_bare K [.int ((10 : Nat) : Int)] = some (.ret (.bl true)) := by
  have hM := fun s1 s2 => rb_list (K := K) 10 (by omega) s1 s2
  rw [show ((List.range 5).map fun j => D.bl (decide (j = 10 - 9))) = [D.bl false, D.bl true, D.bl false, D.bl false, D.bl false] from by simp [List.range_succ]] at hM
  have hne : neF (.lst [D.bl false, D.bl true, D.bl false, D.bl false, D.bl false]) (.lst [D.bl false, D.bl true, D.bl false, D.bl false, D.bl false]) = some (.pl, .bl false) := rfl
  have hni : ninF (.bl true) (.lst [D.bl false, D.bl false, D.bl false, D.bl false, D.bl false, D.bl false, D.bl false, D.bl false, D.bl false]) = some (.pl, .bl true) := rfl
  rw [u__law_bare]
  unfold B__law_bare
  dsimp! [hM, hne, hni, decide_true, decide_false, Nat.reduceEqDiff, List.cons_append, List.nil_append, hk.exm_SizeMismatch_VoiceError, hk.ec_SizeMismatch, hk.kitT_SizeMismatch_ValueError, hk.kit_SizeMismatch_BadName, hk.kit_SizeMismatch_Twice, hk.kit_SizeMismatch_UnknownNote, hk.kit_SizeMismatch_UnknownPair, hk.kit_SizeMismatch_BadRule, hk.kit_SizeMismatch_BadLine, hk.kit_SizeMismatch_BadPlace, hk.kit_SizeMismatch_BadAhead, hk.kit_SizeMismatch_Silent, hk.kit_SizeMismatch_TooMany, hk.kit_SizeMismatch_SizeMismatch, hk.kit_SizeMismatch_BadWindow, hk.kit_SizeMismatch_NoAnswer, hk.kit_SizeMismatch_NoMove]

theorem f_bare11 (hk : Kf K) : F__law_bare K [.int ((11 : Nat) : Int)] = some (.ret (.bl true)) := by
  have hM := fun s1 s2 => rb_list (K := K) 11 (by omega) s1 s2
  rw [show ((List.range 5).map fun j => D.bl (decide (j = 11 - 9))) = [D.bl false, D.bl false, D.bl true, D.bl false, D.bl false] from by simp [List.range_succ]] at hM
  have hne : neF (.lst [D.bl false, D.bl false, D.bl true, D.bl false, D.bl false]) (.lst [D.bl false, D.bl false, D.bl true, D.bl false, D.bl false]) = some (.pl, .bl false) := rfl
  have hni : ninF (.bl true) (.lst [D.bl false, D.bl false, D.bl false, D.bl false, D.bl false, D.bl false, D.bl false, D.bl false, D.bl false]) = some (.pl, .bl true) := rfl
  rw [u__law_bare]
  unfold B__law_bare
  dsimp! [hM, hne, hni, decide_true, decide_false, Nat.reduceEqDiff, List.cons_append, List.nil_append, hk.exm_BadWindow_VoiceError, hk.ec_BadWindow, hk.kitT_BadWindow_ValueError, hk.kit_BadWindow_BadName, hk.kit_BadWindow_Twice, hk.kit_BadWindow_UnknownNote, hk.kit_BadWindow_UnknownPair, hk.kit_BadWindow_BadRule, hk.kit_BadWindow_BadLine, hk.kit_BadWindow_BadPlace, hk.kit_BadWindow_BadAhead, hk.kit_BadWindow_Silent, hk.kit_BadWindow_TooMany, hk.kit_BadWindow_SizeMismatch, hk.kit_BadWindow_BadWindow, hk.kit_BadWindow_NoAnswer, hk.kit_BadWindow_NoMove]

theorem f_bare12 (hk : Kf K) : F__law_bare K [.int ((12 : Nat) : Int)] = some (.ret (.bl true)) := by
  have hM := fun s1 s2 => rb_list (K := K) 12 (by omega) s1 s2
  rw [show ((List.range 5).map fun j => D.bl (decide (j = 12 - 9))) = [D.bl false, D.bl false, D.bl false, D.bl true, D.bl false] from by simp [List.range_succ]] at hM
  have hne : neF (.lst [D.bl false, D.bl false, D.bl false, D.bl true, D.bl false]) (.lst [D.bl false, D.bl false, D.bl false, D.bl true, D.bl false]) = some (.pl, .bl false) := rfl
  have hni : ninF (.bl true) (.lst [D.bl false, D.bl false, D.bl false, D.bl false, D.bl false, D.bl false, D.bl false, D.bl false, D.bl false]) = some (.pl, .bl true) := rfl
  rw [u__law_bare]
  unfold B__law_bare
  dsimp! [hM, hne, hni, decide_true, decide_false, Nat.reduceEqDiff, List.cons_append, List.nil_append, hk.exm_NoAnswer_VoiceError, hk.ec_NoAnswer, hk.kitT_NoAnswer_ValueError, hk.kit_NoAnswer_BadName, hk.kit_NoAnswer_Twice, hk.kit_NoAnswer_UnknownNote, hk.kit_NoAnswer_UnknownPair, hk.kit_NoAnswer_BadRule, hk.kit_NoAnswer_BadLine, hk.kit_NoAnswer_BadPlace, hk.kit_NoAnswer_BadAhead, hk.kit_NoAnswer_Silent, hk.kit_NoAnswer_TooMany, hk.kit_NoAnswer_SizeMismatch, hk.kit_NoAnswer_BadWindow, hk.kit_NoAnswer_NoAnswer, hk.kit_NoAnswer_NoMove]

theorem f_bare13 (hk : Kf K) : F__law_bare K [.int ((13 : Nat) : Int)] = some (.ret (.bl true)) := by
  have hM := fun s1 s2 => rb_list (K := K) 13 (by omega) s1 s2
  rw [show ((List.range 5).map fun j => D.bl (decide (j = 13 - 9))) = [D.bl false, D.bl false, D.bl false, D.bl false, D.bl true] from by simp [List.range_succ]] at hM
  have hne : neF (.lst [D.bl false, D.bl false, D.bl false, D.bl false, D.bl true]) (.lst [D.bl false, D.bl false, D.bl false, D.bl false, D.bl true]) = some (.pl, .bl false) := rfl
  have hni : ninF (.bl true) (.lst [D.bl false, D.bl false, D.bl false, D.bl false, D.bl false, D.bl false, D.bl false, D.bl false, D.bl false]) = some (.pl, .bl true) := rfl
  rw [u__law_bare]
  unfold B__law_bare
  dsimp! [hM, hne, hni, decide_true, decide_false, Nat.reduceEqDiff, List.cons_append, List.nil_append, hk.exm_NoMove_VoiceError, hk.ec_NoMove, hk.kitT_NoMove_ValueError, hk.kit_NoMove_BadName, hk.kit_NoMove_Twice, hk.kit_NoMove_UnknownNote, hk.kit_NoMove_UnknownPair, hk.kit_NoMove_BadRule, hk.kit_NoMove_BadLine, hk.kit_NoMove_BadPlace, hk.kit_NoMove_BadAhead, hk.kit_NoMove_Silent, hk.kit_NoMove_TooMany, hk.kit_NoMove_SizeMismatch, hk.kit_NoMove_BadWindow, hk.kit_NoMove_NoAnswer, hk.kit_NoMove_NoMove]

theorem f_ra0 (hk : Kf K) {s : Str} (hs : PyData.strOk s = true) (n : Int) : F__law_raised K [.int ((0 : Nat) : Int), .str s, .int n] = some (.ret (.bl true)) := by
  have hM := fun s1 s2 s3 s4 => ra_list (K := K) 0 s1 s2 s3 s4
  rw [show ((List.range 14).map fun j => D.bl (decide (j = 0))) = [D.bl true, D.bl false, D.bl false, D.bl false, D.bl false, D.bl false, D.bl false, D.bl false, D.bl false, D.bl false, D.bl false, D.bl false, D.bl false, D.bl false] from by simp [List.range_succ]] at hM
  have hne : neF (.lst [D.bl true, D.bl false, D.bl false, D.bl false, D.bl false, D.bl false, D.bl false, D.bl false, D.bl false, D.bl false, D.bl false, D.bl false, D.bl false, D.bl false]) (.lst [D.bl true, D.bl false, D.bl false, D.bl false, D.bl false, D.bl false, D.bl false, D.bl false, D.bl false, D.bl false, D.bl false, D.bl false, D.bl false, D.bl false]) = some (.pl, .bl false) := rfl
  have hq : eqF (.str s) (.str s) = some (.pl, .bl true) := by dsimp! [decide_true]
  rw [u__law_raised]
  unfold B__law_raised
  dsimp! [hM, hne, hq, decide_true, decide_false, Nat.reduceEqDiff, Nat.reduceLT, List.cons_append, List.nil_append, hk.exm_BadName_VoiceError, hk.ec_BadName, hk.kitT_BadName_ValueError, hk.kit_BadName_BadName, hk.kit_BadName_Twice, hk.kit_BadName_UnknownNote, hk.kit_BadName_UnknownPair, hk.kit_BadName_BadRule, hk.kit_BadName_BadLine, hk.kit_BadName_BadPlace, hk.kit_BadName_BadAhead, hk.kit_BadName_Silent, hk.kit_BadName_TooMany, hk.kit_BadName_SizeMismatch, hk.kit_BadName_BadWindow, hk.kit_BadName_NoAnswer, hk.kit_BadName_NoMove, hk.nf_BadName_name]

theorem f_ra1 (hk : Kf K) {s : Str} (hs : PyData.strOk s = true) (n : Int) : F__law_raised K [.int ((1 : Nat) : Int), .str s, .int n] = some (.ret (.bl true)) := by
  have hM := fun s1 s2 s3 s4 => ra_list (K := K) 1 s1 s2 s3 s4
  rw [show ((List.range 14).map fun j => D.bl (decide (j = 1))) = [D.bl false, D.bl true, D.bl false, D.bl false, D.bl false, D.bl false, D.bl false, D.bl false, D.bl false, D.bl false, D.bl false, D.bl false, D.bl false, D.bl false] from by simp [List.range_succ]] at hM
  have hne : neF (.lst [D.bl false, D.bl true, D.bl false, D.bl false, D.bl false, D.bl false, D.bl false, D.bl false, D.bl false, D.bl false, D.bl false, D.bl false, D.bl false, D.bl false]) (.lst [D.bl false, D.bl true, D.bl false, D.bl false, D.bl false, D.bl false, D.bl false, D.bl false, D.bl false, D.bl false, D.bl false, D.bl false, D.bl false, D.bl false]) = some (.pl, .bl false) := rfl
  have hq : eqF (.str s) (.str s) = some (.pl, .bl true) := by dsimp! [decide_true]
  rw [u__law_raised]
  unfold B__law_raised
  dsimp! [hM, hne, hq, decide_true, decide_false, Nat.reduceEqDiff, Nat.reduceLT, List.cons_append, List.nil_append, hk.exm_Twice_VoiceError, hk.ec_Twice, hk.kitT_Twice_ValueError, hk.kit_Twice_BadName, hk.kit_Twice_Twice, hk.kit_Twice_UnknownNote, hk.kit_Twice_UnknownPair, hk.kit_Twice_BadRule, hk.kit_Twice_BadLine, hk.kit_Twice_BadPlace, hk.kit_Twice_BadAhead, hk.kit_Twice_Silent, hk.kit_Twice_TooMany, hk.kit_Twice_SizeMismatch, hk.kit_Twice_BadWindow, hk.kit_Twice_NoAnswer, hk.kit_Twice_NoMove, hk.nf_Twice_name]

theorem f_ra2 (hk : Kf K) {s : Str} (hs : PyData.strOk s = true) (n : Int) : F__law_raised K [.int ((2 : Nat) : Int), .str s, .int n] = some (.ret (.bl true)) := by
  have hM := fun s1 s2 s3 s4 => ra_list (K := K) 2 s1 s2 s3 s4
  rw [show ((List.range 14).map fun j => D.bl (decide (j = 2))) = [D.bl false, D.bl false, D.bl true, D.bl false, D.bl false, D.bl false, D.bl false, D.bl false, D.bl false, D.bl false, D.bl false, D.bl false, D.bl false, D.bl false] from by simp [List.range_succ]] at hM
  have hne : neF (.lst [D.bl false, D.bl false, D.bl true, D.bl false, D.bl false, D.bl false, D.bl false, D.bl false, D.bl false, D.bl false, D.bl false, D.bl false, D.bl false, D.bl false]) (.lst [D.bl false, D.bl false, D.bl true, D.bl false, D.bl false, D.bl false, D.bl false, D.bl false, D.bl false, D.bl false, D.bl false, D.bl false, D.bl false, D.bl false]) = some (.pl, .bl false) := rfl
  have hq : eqF (.str s) (.str s) = some (.pl, .bl true) := by dsimp! [decide_true]
  rw [u__law_raised]
  unfold B__law_raised
  dsimp! [hM, hne, hq, decide_true, decide_false, Nat.reduceEqDiff, Nat.reduceLT, List.cons_append, List.nil_append, hk.exm_UnknownNote_VoiceError, hk.ec_UnknownNote, hk.kitT_UnknownNote_ValueError, hk.kit_UnknownNote_BadName, hk.kit_UnknownNote_Twice, hk.kit_UnknownNote_UnknownNote, hk.kit_UnknownNote_UnknownPair, hk.kit_UnknownNote_BadRule, hk.kit_UnknownNote_BadLine, hk.kit_UnknownNote_BadPlace, hk.kit_UnknownNote_BadAhead, hk.kit_UnknownNote_Silent, hk.kit_UnknownNote_TooMany, hk.kit_UnknownNote_SizeMismatch, hk.kit_UnknownNote_BadWindow, hk.kit_UnknownNote_NoAnswer, hk.kit_UnknownNote_NoMove, hk.nf_UnknownNote_note]

theorem f_ra3 (hk : Kf K) {s : Str} (hs : PyData.strOk s = true) (n : Int) : F__law_raised K [.int ((3 : Nat) : Int), .str s, .int n] = some (.ret (.bl true)) := by
  have hM := fun s1 s2 s3 s4 => ra_list (K := K) 3 s1 s2 s3 s4
  rw [show ((List.range 14).map fun j => D.bl (decide (j = 3))) = [D.bl false, D.bl false, D.bl false, D.bl true, D.bl false, D.bl false, D.bl false, D.bl false, D.bl false, D.bl false, D.bl false, D.bl false, D.bl false, D.bl false] from by simp [List.range_succ]] at hM
  have hne : neF (.lst [D.bl false, D.bl false, D.bl false, D.bl true, D.bl false, D.bl false, D.bl false, D.bl false, D.bl false, D.bl false, D.bl false, D.bl false, D.bl false, D.bl false]) (.lst [D.bl false, D.bl false, D.bl false, D.bl true, D.bl false, D.bl false, D.bl false, D.bl false, D.bl false, D.bl false, D.bl false, D.bl false, D.bl false, D.bl false]) = some (.pl, .bl false) := rfl
  have hq : eqF (.tup [.str s, .str s]) (.tup [.str s, .str s]) = some (.pl, .bl true) := n_eqS rfl (by rw [show (.tup [.str s, .str s] : D) = .tup ([(s : Str), (s : Str)].map D.str) from rfl, ok_tup, okL_map]; simp [ok_str, hs, wop])
  rw [u__law_raised]
  unfold B__law_raised
  dsimp! [hM, hne, hq, decide_true, decide_false, Nat.reduceEqDiff, Nat.reduceLT, List.cons_append, List.nil_append, hk.exm_UnknownPair_VoiceError, hk.ec_UnknownPair, hk.kitT_UnknownPair_ValueError, hk.kit_UnknownPair_BadName, hk.kit_UnknownPair_Twice, hk.kit_UnknownPair_UnknownNote, hk.kit_UnknownPair_UnknownPair, hk.kit_UnknownPair_BadRule, hk.kit_UnknownPair_BadLine, hk.kit_UnknownPair_BadPlace, hk.kit_UnknownPair_BadAhead, hk.kit_UnknownPair_Silent, hk.kit_UnknownPair_TooMany, hk.kit_UnknownPair_SizeMismatch, hk.kit_UnknownPair_BadWindow, hk.kit_UnknownPair_NoAnswer, hk.kit_UnknownPair_NoMove, hk.nf_UnknownPair_pair]

theorem f_ra4 (hk : Kf K) {s : Str} (hs : PyData.strOk s = true) (n : Int) : F__law_raised K [.int ((4 : Nat) : Int), .str s, .int n] = some (.ret (.bl true)) := by
  have hM := fun s1 s2 s3 s4 => ra_list (K := K) 4 s1 s2 s3 s4
  rw [show ((List.range 14).map fun j => D.bl (decide (j = 4))) = [D.bl false, D.bl false, D.bl false, D.bl false, D.bl true, D.bl false, D.bl false, D.bl false, D.bl false, D.bl false, D.bl false, D.bl false, D.bl false, D.bl false] from by simp [List.range_succ]] at hM
  have hne : neF (.lst [D.bl false, D.bl false, D.bl false, D.bl false, D.bl true, D.bl false, D.bl false, D.bl false, D.bl false, D.bl false, D.bl false, D.bl false, D.bl false, D.bl false]) (.lst [D.bl false, D.bl false, D.bl false, D.bl false, D.bl true, D.bl false, D.bl false, D.bl false, D.bl false, D.bl false, D.bl false, D.bl false, D.bl false, D.bl false]) = some (.pl, .bl false) := rfl
  have hq : eqF (.tup [.str "open", .str s, .str s]) (.tup [.str "open", .str s, .str s]) = some (.pl, .bl true) := n_eqS rfl (by rw [show (.tup [.str "open", .str s, .str s] : D) = .tup ([("open" : Str), (s : Str), (s : Str)].map D.str) from rfl, ok_tup, okL_map]; simp [ok_str, hs, wop])
  rw [u__law_raised]
  unfold B__law_raised
  dsimp! [hM, hne, hq, decide_true, decide_false, Nat.reduceEqDiff, Nat.reduceLT, List.cons_append, List.nil_append, hk.exm_BadRule_VoiceError, hk.ec_BadRule, hk.kitT_BadRule_ValueError, hk.kit_BadRule_BadName, hk.kit_BadRule_Twice, hk.kit_BadRule_UnknownNote, hk.kit_BadRule_UnknownPair, hk.kit_BadRule_BadRule, hk.kit_BadRule_BadLine, hk.kit_BadRule_BadPlace, hk.kit_BadRule_BadAhead, hk.kit_BadRule_Silent, hk.kit_BadRule_TooMany, hk.kit_BadRule_SizeMismatch, hk.kit_BadRule_BadWindow, hk.kit_BadRule_NoAnswer, hk.kit_BadRule_NoMove, hk.nf_BadRule_rule]

theorem f_ra5 (hk : Kf K) {s : Str} (hs : PyData.strOk s = true) (n : Int) : F__law_raised K [.int ((5 : Nat) : Int), .str s, .int n] = some (.ret (.bl true)) := by
  have hM := fun s1 s2 s3 s4 => ra_list (K := K) 5 s1 s2 s3 s4
  rw [show ((List.range 14).map fun j => D.bl (decide (j = 5))) = [D.bl false, D.bl false, D.bl false, D.bl false, D.bl false, D.bl true, D.bl false, D.bl false, D.bl false, D.bl false, D.bl false, D.bl false, D.bl false, D.bl false] from by simp [List.range_succ]] at hM
  have hne : neF (.lst [D.bl false, D.bl false, D.bl false, D.bl false, D.bl false, D.bl true, D.bl false, D.bl false, D.bl false, D.bl false, D.bl false, D.bl false, D.bl false, D.bl false]) (.lst [D.bl false, D.bl false, D.bl false, D.bl false, D.bl false, D.bl true, D.bl false, D.bl false, D.bl false, D.bl false, D.bl false, D.bl false, D.bl false, D.bl false]) = some (.pl, .bl false) := rfl
  have hq : eqF (.int n) (.int n) = some (.pl, .bl true) := by simp
  rw [u__law_raised]
  unfold B__law_raised
  dsimp! [hM, hne, hq, decide_true, decide_false, Nat.reduceEqDiff, Nat.reduceLT, List.cons_append, List.nil_append, hk.exm_BadLine_VoiceError, hk.ec_BadLine, hk.kitT_BadLine_ValueError, hk.kit_BadLine_BadName, hk.kit_BadLine_Twice, hk.kit_BadLine_UnknownNote, hk.kit_BadLine_UnknownPair, hk.kit_BadLine_BadRule, hk.kit_BadLine_BadLine, hk.kit_BadLine_BadPlace, hk.kit_BadLine_BadAhead, hk.kit_BadLine_Silent, hk.kit_BadLine_TooMany, hk.kit_BadLine_SizeMismatch, hk.kit_BadLine_BadWindow, hk.kit_BadLine_NoAnswer, hk.kit_BadLine_NoMove, hk.nf_BadLine_number]

theorem f_ra6 (hk : Kf K) {s : Str} (hs : PyData.strOk s = true) (n : Int) : F__law_raised K [.int ((6 : Nat) : Int), .str s, .int n] = some (.ret (.bl true)) := by
  have hM := fun s1 s2 s3 s4 => ra_list (K := K) 6 s1 s2 s3 s4
  rw [show ((List.range 14).map fun j => D.bl (decide (j = 6))) = [D.bl false, D.bl false, D.bl false, D.bl false, D.bl false, D.bl false, D.bl true, D.bl false, D.bl false, D.bl false, D.bl false, D.bl false, D.bl false, D.bl false] from by simp [List.range_succ]] at hM
  have hne : neF (.lst [D.bl false, D.bl false, D.bl false, D.bl false, D.bl false, D.bl false, D.bl true, D.bl false, D.bl false, D.bl false, D.bl false, D.bl false, D.bl false, D.bl false]) (.lst [D.bl false, D.bl false, D.bl false, D.bl false, D.bl false, D.bl false, D.bl true, D.bl false, D.bl false, D.bl false, D.bl false, D.bl false, D.bl false, D.bl false]) = some (.pl, .bl false) := rfl
  have hq : eqF (.int n) (.int n) = some (.pl, .bl true) := by simp
  rw [u__law_raised]
  unfold B__law_raised
  dsimp! [hM, hne, hq, decide_true, decide_false, Nat.reduceEqDiff, Nat.reduceLT, List.cons_append, List.nil_append, hk.exm_BadPlace_VoiceError, hk.ec_BadPlace, hk.kitT_BadPlace_ValueError, hk.kit_BadPlace_BadName, hk.kit_BadPlace_Twice, hk.kit_BadPlace_UnknownNote, hk.kit_BadPlace_UnknownPair, hk.kit_BadPlace_BadRule, hk.kit_BadPlace_BadLine, hk.kit_BadPlace_BadPlace, hk.kit_BadPlace_BadAhead, hk.kit_BadPlace_Silent, hk.kit_BadPlace_TooMany, hk.kit_BadPlace_SizeMismatch, hk.kit_BadPlace_BadWindow, hk.kit_BadPlace_NoAnswer, hk.kit_BadPlace_NoMove, hk.nf_BadPlace_place]

theorem f_ra7 (hk : Kf K) {s : Str} (hs : PyData.strOk s = true) (n : Int) : F__law_raised K [.int ((7 : Nat) : Int), .str s, .int n] = some (.ret (.bl true)) := by
  have hM := fun s1 s2 s3 s4 => ra_list (K := K) 7 s1 s2 s3 s4
  rw [show ((List.range 14).map fun j => D.bl (decide (j = 7))) = [D.bl false, D.bl false, D.bl false, D.bl false, D.bl false, D.bl false, D.bl false, D.bl true, D.bl false, D.bl false, D.bl false, D.bl false, D.bl false, D.bl false] from by simp [List.range_succ]] at hM
  have hne : neF (.lst [D.bl false, D.bl false, D.bl false, D.bl false, D.bl false, D.bl false, D.bl false, D.bl true, D.bl false, D.bl false, D.bl false, D.bl false, D.bl false, D.bl false]) (.lst [D.bl false, D.bl false, D.bl false, D.bl false, D.bl false, D.bl false, D.bl false, D.bl true, D.bl false, D.bl false, D.bl false, D.bl false, D.bl false, D.bl false]) = some (.pl, .bl false) := rfl
  have hq : eqF (.int n) (.int n) = some (.pl, .bl true) := by simp
  rw [u__law_raised]
  unfold B__law_raised
  dsimp! [hM, hne, hq, decide_true, decide_false, Nat.reduceEqDiff, Nat.reduceLT, List.cons_append, List.nil_append, hk.exm_BadAhead_VoiceError, hk.ec_BadAhead, hk.kitT_BadAhead_ValueError, hk.kit_BadAhead_BadName, hk.kit_BadAhead_Twice, hk.kit_BadAhead_UnknownNote, hk.kit_BadAhead_UnknownPair, hk.kit_BadAhead_BadRule, hk.kit_BadAhead_BadLine, hk.kit_BadAhead_BadPlace, hk.kit_BadAhead_BadAhead, hk.kit_BadAhead_Silent, hk.kit_BadAhead_TooMany, hk.kit_BadAhead_SizeMismatch, hk.kit_BadAhead_BadWindow, hk.kit_BadAhead_NoAnswer, hk.kit_BadAhead_NoMove, hk.nf_BadAhead_ahead]

theorem f_ra8 (hk : Kf K) {s : Str} (hs : PyData.strOk s = true) (n : Int) : F__law_raised K [.int ((8 : Nat) : Int), .str s, .int n] = some (.ret (.bl true)) := by
  have hM := fun s1 s2 s3 s4 => ra_list (K := K) 8 s1 s2 s3 s4
  rw [show ((List.range 14).map fun j => D.bl (decide (j = 8))) = [D.bl false, D.bl false, D.bl false, D.bl false, D.bl false, D.bl false, D.bl false, D.bl false, D.bl true, D.bl false, D.bl false, D.bl false, D.bl false, D.bl false] from by simp [List.range_succ]] at hM
  have hne : neF (.lst [D.bl false, D.bl false, D.bl false, D.bl false, D.bl false, D.bl false, D.bl false, D.bl false, D.bl true, D.bl false, D.bl false, D.bl false, D.bl false, D.bl false]) (.lst [D.bl false, D.bl false, D.bl false, D.bl false, D.bl false, D.bl false, D.bl false, D.bl false, D.bl true, D.bl false, D.bl false, D.bl false, D.bl false, D.bl false]) = some (.pl, .bl false) := rfl
  have hq : eqF (.lst [.str s]) (.lst [.str s]) = some (.pl, .bl true) := n_eqS rfl (by rw [show (.lst [.str s] : D) = .lst ([(s : Str)].map D.str) from rfl, ok_lst, okL_map]; simp [ok_str, hs, wop])
  rw [u__law_raised]
  unfold B__law_raised
  dsimp! [hM, hne, hq, decide_true, decide_false, Nat.reduceEqDiff, Nat.reduceLT, List.cons_append, List.nil_append, hk.exm_Silent_VoiceError, hk.ec_Silent, hk.kitT_Silent_ValueError, hk.kit_Silent_BadName, hk.kit_Silent_Twice, hk.kit_Silent_UnknownNote, hk.kit_Silent_UnknownPair, hk.kit_Silent_BadRule, hk.kit_Silent_BadLine, hk.kit_Silent_BadPlace, hk.kit_Silent_BadAhead, hk.kit_Silent_Silent, hk.kit_Silent_TooMany, hk.kit_Silent_SizeMismatch, hk.kit_Silent_BadWindow, hk.kit_Silent_NoAnswer, hk.kit_Silent_NoMove, hk.nf_Silent_voice]

theorem f_ra9 (hk : Kf K) {s : Str} (hs : PyData.strOk s = true) (n : Int) : F__law_raised K [.int ((9 : Nat) : Int), .str s, .int n] = some (.ret (.bl true)) := by
  have hM := fun s1 s2 s3 s4 => ra_list (K := K) 9 s1 s2 s3 s4
  rw [show ((List.range 14).map fun j => D.bl (decide (j = 9))) = [D.bl false, D.bl false, D.bl false, D.bl false, D.bl false, D.bl false, D.bl false, D.bl false, D.bl false, D.bl true, D.bl false, D.bl false, D.bl false, D.bl false] from by simp [List.range_succ]] at hM
  have hne : neF (.lst [D.bl false, D.bl false, D.bl false, D.bl false, D.bl false, D.bl false, D.bl false, D.bl false, D.bl false, D.bl true, D.bl false, D.bl false, D.bl false, D.bl false]) (.lst [D.bl false, D.bl false, D.bl false, D.bl false, D.bl false, D.bl false, D.bl false, D.bl false, D.bl false, D.bl true, D.bl false, D.bl false, D.bl false, D.bl false]) = some (.pl, .bl false) := rfl
  have eb := f_bare9 hk
  rw [u__law_raised]
  unfold B__law_raised
  dsimp! [hM, hne, decide_true, decide_false, Nat.reduceEqDiff, Nat.reduceLT, List.cons_append, List.nil_append, eb]

theorem f_ra10 (hk : Kf K) {s : Str} (hs : PyData.strOk s = true) (n : Int) : F__law_raised K [.int ((10 : Nat) : Int), .str s, .int n] = some (.ret (.bl true)) := by
  have hM := fun s1 s2 s3 s4 => ra_list (K := K) 10 s1 s2 s3 s4
  rw [show ((List.range 14).map fun j => D.bl (decide (j = 10))) = [D.bl false, D.bl false, D.bl false, D.bl false, D.bl false, D.bl false, D.bl false, D.bl false, D.bl false, D.bl false, D.bl true, D.bl false, D.bl false, D.bl false] from by simp [List.range_succ]] at hM
  have hne : neF (.lst [D.bl false, D.bl false, D.bl false, D.bl false, D.bl false, D.bl false, D.bl false, D.bl false, D.bl false, D.bl false, D.bl true, D.bl false, D.bl false, D.bl false]) (.lst [D.bl false, D.bl false, D.bl false, D.bl false, D.bl false, D.bl false, D.bl false, D.bl false, D.bl false, D.bl false, D.bl true, D.bl false, D.bl false, D.bl false]) = some (.pl, .bl false) := rfl
  have eb := f_bare10 hk
  rw [u__law_raised]
  unfold B__law_raised
  dsimp! [hM, hne, decide_true, decide_false, Nat.reduceEqDiff, Nat.reduceLT, List.cons_append, List.nil_append, eb]

theorem f_ra11 (hk : Kf K) {s : Str} (hs : PyData.strOk s = true) (n : Int) : F__law_raised K [.int ((11 : Nat) : Int), .str s, .int n] = some (.ret (.bl true)) := by
  have hM := fun s1 s2 s3 s4 => ra_list (K := K) 11 s1 s2 s3 s4
  rw [show ((List.range 14).map fun j => D.bl (decide (j = 11))) = [D.bl false, D.bl false, D.bl false, D.bl false, D.bl false, D.bl false, D.bl false, D.bl false, D.bl false, D.bl false, D.bl false, D.bl true, D.bl false, D.bl false] from by simp [List.range_succ]] at hM
  have hne : neF (.lst [D.bl false, D.bl false, D.bl false, D.bl false, D.bl false, D.bl false, D.bl false, D.bl false, D.bl false, D.bl false, D.bl false, D.bl true, D.bl false, D.bl false]) (.lst [D.bl false, D.bl false, D.bl false, D.bl false, D.bl false, D.bl false, D.bl false, D.bl false, D.bl false, D.bl false, D.bl false, D.bl true, D.bl false, D.bl false]) = some (.pl, .bl false) := rfl
  have eb := f_bare11 hk
  rw [u__law_raised]
  unfold B__law_raised
  dsimp! [hM, hne, decide_true, decide_false, Nat.reduceEqDiff, Nat.reduceLT, List.cons_append, List.nil_append, eb]

theorem f_ra12 (hk : Kf K) {s : Str} (hs : PyData.strOk s = true) (n : Int) : F__law_raised K [.int ((12 : Nat) : Int), .str s, .int n] = some (.ret (.bl true)) := by
  have hM := fun s1 s2 s3 s4 => ra_list (K := K) 12 s1 s2 s3 s4
  rw [show ((List.range 14).map fun j => D.bl (decide (j = 12))) = [D.bl false, D.bl false, D.bl false, D.bl false, D.bl false, D.bl false, D.bl false, D.bl false, D.bl false, D.bl false, D.bl false, D.bl false, D.bl true, D.bl false] from by simp [List.range_succ]] at hM
  have hne : neF (.lst [D.bl false, D.bl false, D.bl false, D.bl false, D.bl false, D.bl false, D.bl false, D.bl false, D.bl false, D.bl false, D.bl false, D.bl false, D.bl true, D.bl false]) (.lst [D.bl false, D.bl false, D.bl false, D.bl false, D.bl false, D.bl false, D.bl false, D.bl false, D.bl false, D.bl false, D.bl false, D.bl false, D.bl true, D.bl false]) = some (.pl, .bl false) := rfl
  have eb := f_bare12 hk
  rw [u__law_raised]
  unfold B__law_raised
  dsimp! [hM, hne, decide_true, decide_false, Nat.reduceEqDiff, Nat.reduceLT, List.cons_append, List.nil_append, eb]

theorem f_ra13 (hk : Kf K) {s : Str} (hs : PyData.strOk s = true) (n : Int) : F__law_raised K [.int ((13 : Nat) : Int), .str s, .int n] = some (.ret (.bl true)) := by
  have hM := fun s1 s2 s3 s4 => ra_list (K := K) 13 s1 s2 s3 s4
  rw [show ((List.range 14).map fun j => D.bl (decide (j = 13))) = [D.bl false, D.bl false, D.bl false, D.bl false, D.bl false, D.bl false, D.bl false, D.bl false, D.bl false, D.bl false, D.bl false, D.bl false, D.bl false, D.bl true] from by simp [List.range_succ]] at hM
  have hne : neF (.lst [D.bl false, D.bl false, D.bl false, D.bl false, D.bl false, D.bl false, D.bl false, D.bl false, D.bl false, D.bl false, D.bl false, D.bl false, D.bl false, D.bl true]) (.lst [D.bl false, D.bl false, D.bl false, D.bl false, D.bl false, D.bl false, D.bl false, D.bl false, D.bl false, D.bl false, D.bl false, D.bl false, D.bl false, D.bl true]) = some (.pl, .bl false) := rfl
  have eb := f_bare13 hk
  rw [u__law_raised]
  unfold B__law_raised
  dsimp! [hM, hne, decide_true, decide_false, Nat.reduceEqDiff, Nat.reduceLT, List.cons_append, List.nil_append, eb]

end Pf

namespace Pf
open PySem L2 Lv
open Classical
variable {K : PySem.W.Frag}
theorem f_raA (hk : Kf K) {s : Str} (hs : PyData.strOk s = true) (n : Int) : ∀ k : Nat, k < 14 → F__law_raised K [.int ((k : Nat) : Int), .str s, .int n] = some (.ret (.bl true))
  | 0, _ => f_ra0 hk hs n
  | 1, _ => f_ra1 hk hs n
  | 2, _ => f_ra2 hk hs n
  | 3, _ => f_ra3 hk hs n
  | 4, _ => f_ra4 hk hs n
  | 5, _ => f_ra5 hk hs n
  | 6, _ => f_ra6 hk hs n
  | 7, _ => f_ra7 hk hs n
  | 8, _ => f_ra8 hk hs n
  | 9, _ => f_ra9 hk hs n
  | 10, _ => f_ra10 hk hs n
  | 11, _ => f_ra11 hk hs n
  | 12, _ => f_ra12 hk hs n
  | 13, _ => f_ra13 hk hs n
  | _ + 14, h => absurd h (by omega)
theorem nmL_ch {ns : List Int} {k j : Nat} : ∀ c ∈ nmL ns k j, ∃ i, i < 62 ∧ c = sgn i := fun c hc => by
  unfold nmL at hc
  have key : ∀ {l : List Nat} {f : Nat → Nat}, c ∈ l.map (fun j => sgn (f j % 62)) → ∃ i, i < 62 ∧ c = sgn i := fun {l f} h => by
    obtain ⟨j, _, rfl⟩ := List.mem_map.mp h
    exact ⟨_, Nat.mod_lt _ (by omega), rfl⟩
  rcases List.mem_append.mp hc with hc | hc
  · rcases List.mem_append.mp hc with hc | hc
    · exact key (f := fun j => 5 * dig ns k 12 (4 + j) + 11 * j) hc
    · rw [List.mem_singleton] at hc
      exact ⟨_, Nat.mod_lt _ (by omega), hc⟩
  · split at hc
    · exact key (f := fun j => 5 * dig ns k 12 (7 + j) + 17 * j) hc
    · cases hc
theorem nm_strOk {ns : List Int} {k j : Nat} : PyData.strOk (nmS ns k j) = true := by
  unfold nmS mkS PyData.strOk
  rw [List.all_toArray, List.all_eq_true]
  intro c hc
  obtain ⟨i, hi, rfl⟩ := nmL_ch c hc
  have := sgn_ok i
  rw [decide_eq_true_iff]
  omega
theorem law_holds (hk : Kf K) (ns : List Int) (h : ns.length ≤ 63) : F_law K [.scr ns] = some (.ret (.bl true)) := by
  have en := f_names (K := K) ns 0 2 (by omega) (by omega)
  have ec := f_cell (K := K) ns 1
  generalize ns.getD 1 0 = c at ec
  have en' : F__law_names K [.scr ns, .int ((0 : Nat) : Int), .int ((2 : Nat) : Int)] = some (.new ((List.range 2).map fun j => .str (nmS ns 0 j))) := en
  have ec' : F__law_cell K [.scr ns, .int ((1 : Nat) : Int)] = some (.ret (.int c)) := ec
  have hp : powF (.int ((10 : Nat) : Int)) (.int ((30 : Nat) : Int)) = some (.pl, .int (10 ^ 30)) := by rw [x_pow, if_pos (by decide)]; rfl
  have hm : modF (.int c) (.int (10 ^ 30)) = some (.pl, .int (c % 10 ^ 30)) := by rw [x_mod, if_pos (by decide)]
  generalize c % 10 ^ 30 = n at hm
  have hsub : subF (.int ((0 : Nat) : Int)) (.int n) = some (.pl, .int (0 - n)) := rfl
  let S : Sl → Sl → Fs := fun s3 s4 => [.pl (.scr ns), .pl (.lst ((List.range 2).map fun j => .str (nmS ns 0 j))), .pl (.int n), s3, s4]
  have inn : ∀ (k : Nat) (hk14 : k < 14) all, forGo (gN 4) (L_law_1 K) all none ((List.range 2).map fun j => D.str (nmS ns 0 j)) (S (.pl (.int ((k : Nat) : Int))) .no) = some (.nx (S (.pl (.int ((k : Nat) : Int))) .no)) := fun k hk14 all => by
    refine forGo_same (enc := fun j => D.str (nmS ns 0 j)) (gg := gN 4) (bd := L_law_1 K) (List.range 2) fun j hj => ⟨_, rfl, ?_⟩
    have e1 := f_raA hk (nm_strOk (ns := ns) (k := 0) (j := j)) n k hk14
    have e2 := f_raA hk (nm_strOk (ns := ns) (k := 0) (j := j)) (0 - n) k hk14
    unfold L_law_1
    simp only [S, List.set_cons_succ, List.set_cons_zero]
    dsimp! [e1, e2, hsub]
  have out : ∀ all, forGo (gN 3) (L_law_2 K) all none ((List.range 14).map fun (j : Nat) => D.int (j : Int)) (S .no .no) = some (.nx (S .no .no)) := fun all => by
    refine forGo_same (enc := fun (j : Nat) => D.int (j : Int)) (gg := gN 3) (bd := L_law_2 K) (List.range 14) fun k hk => ⟨_, rfl, ?_⟩
    have inn := inn k (List.mem_range.mp hk)
    unfold L_law_2
    simp only [S, List.set_cons_succ, List.set_cons_zero] at inn ⊢
    dsimp! [inn]
  rw [u_law]
  unfold B_law
  simp only [S] at out
  dsimp! [en', ec', hp, hm, out]
end Pf

namespace Pf
open PySem L2 Lv
open Classical
def topS (i : Nat) : Stmt := PySem.Challenge.pw_lookvoice_k48_errors.main.body.getD i (.Pass ⟨0, 0, 0, 0⟩)
abbrev s_BadAhead : Stmt := inClass (topS 11) 0
theorem S_BadAhead : FnScope ["self", "ahead"] ["self", "ahead"] (defScope s_BadAhead) := ⟨rfl, rfl, rfl, by decide +kernel, rfl, by decide +kernel, by decide +kernel⟩
theorem ok_BadAhead {P : Program} {w : World} {K : PySem.W.Frag} {mg : Str → Option Value} {base : Heap} {f : Addr} {fd : FuncData} (F : FunU K "__init__" "BadAhead.__init__" s_BadAhead f fd) : FnOk P w K mg base (L2N.CX P w) 1 f fd ["self", "ahead"] (spXI K "ahead") :=
  fn_okX F S_BadAhead rfl fun cdv A' outer s H E => pss_one (ps_ost (pv 0) (pv 1))
abbrev s_BadLine : Stmt := inClass (topS 8) 0
theorem S_BadLine : FnScope ["self", "number"] ["self", "number"] (defScope s_BadLine) := ⟨rfl, rfl, rfl, by decide +kernel, rfl, by decide +kernel, by decide +kernel⟩
theorem ok_BadLine {P : Program} {w : World} {K : PySem.W.Frag} {mg : Str → Option Value} {base : Heap} {f : Addr} {fd : FuncData} (F : FunU K "__init__" "BadLine.__init__" s_BadLine f fd) : FnOk P w K mg base (L2N.CX P w) 1 f fd ["self", "number"] (spXI K "number") :=
  fn_okX F S_BadLine rfl fun cdv A' outer s H E => pss_one (ps_ost (pv 0) (pv 1))
abbrev s_BadName : Stmt := inClass (topS 2) 0
theorem S_BadName : FnScope ["self", "name"] ["self", "name"] (defScope s_BadName) := ⟨rfl, rfl, rfl, by decide +kernel, rfl, by decide +kernel, by decide +kernel⟩
theorem ok_BadName {P : Program} {w : World} {K : PySem.W.Frag} {mg : Str → Option Value} {base : Heap} {f : Addr} {fd : FuncData} (F : FunU K "__init__" "BadName.__init__" s_BadName f fd) : FnOk P w K mg base (L2N.CX P w) 1 f fd ["self", "name"] (spXI K "name") :=
  fn_okX F S_BadName rfl fun cdv A' outer s H E => pss_one (ps_ost (pv 0) (pv 1))
abbrev s_BadPlace : Stmt := inClass (topS 9) 0
theorem S_BadPlace : FnScope ["self", "place"] ["self", "place"] (defScope s_BadPlace) := ⟨rfl, rfl, rfl, by decide +kernel, rfl, by decide +kernel, by decide +kernel⟩
theorem ok_BadPlace {P : Program} {w : World} {K : PySem.W.Frag} {mg : Str → Option Value} {base : Heap} {f : Addr} {fd : FuncData} (F : FunU K "__init__" "BadPlace.__init__" s_BadPlace f fd) : FnOk P w K mg base (L2N.CX P w) 1 f fd ["self", "place"] (spXI K "place") :=
  fn_okX F S_BadPlace rfl fun cdv A' outer s H E => pss_one (ps_ost (pv 0) (pv 1))
abbrev s_BadRule : Stmt := inClass (topS 7) 0
theorem S_BadRule : FnScope ["self", "rule"] ["self", "rule"] (defScope s_BadRule) := ⟨rfl, rfl, rfl, by decide +kernel, rfl, by decide +kernel, by decide +kernel⟩
theorem ok_BadRule {P : Program} {w : World} {K : PySem.W.Frag} {mg : Str → Option Value} {base : Heap} {f : Addr} {fd : FuncData} (F : FunU K "__init__" "BadRule.__init__" s_BadRule f fd) : FnOk P w K mg base (L2N.CX P w) 1 f fd ["self", "rule"] (spXI K "rule") :=
  fn_okX F S_BadRule rfl fun cdv A' outer s H E => pss_one (ps_ost (pv 0) (pv 1))
abbrev s_Silent : Stmt := inClass (topS 15) 0
theorem S_Silent : FnScope ["self", "voice"] ["self", "voice"] (defScope s_Silent) := ⟨rfl, rfl, rfl, by decide +kernel, rfl, by decide +kernel, by decide +kernel⟩
theorem ok_Silent {P : Program} {w : World} {K : PySem.W.Frag} {mg : Str → Option Value} {base : Heap} {f : Addr} {fd : FuncData} (F : FunU K "__init__" "Silent.__init__" s_Silent f fd) : FnOk P w K mg base (L2N.CX P w) 1 f fd ["self", "voice"] (spXI K "voice") :=
  fn_okX F S_Silent rfl fun cdv A' outer s H E => pss_one (ps_ost (pv 0) (pv 1))
abbrev s_Twice : Stmt := inClass (topS 3) 0
theorem S_Twice : FnScope ["self", "name"] ["self", "name"] (defScope s_Twice) := ⟨rfl, rfl, rfl, by decide +kernel, rfl, by decide +kernel, by decide +kernel⟩
theorem ok_Twice {P : Program} {w : World} {K : PySem.W.Frag} {mg : Str → Option Value} {base : Heap} {f : Addr} {fd : FuncData} (F : FunU K "__init__" "Twice.__init__" s_Twice f fd) : FnOk P w K mg base (L2N.CX P w) 1 f fd ["self", "name"] (spXI K "name") :=
  fn_okX F S_Twice rfl fun cdv A' outer s H E => pss_one (ps_ost (pv 0) (pv 1))
abbrev s_UnknownNote : Stmt := inClass (topS 5) 0
theorem S_UnknownNote : FnScope ["self", "note"] ["self", "note"] (defScope s_UnknownNote) := ⟨rfl, rfl, rfl, by decide +kernel, rfl, by decide +kernel, by decide +kernel⟩
theorem ok_UnknownNote {P : Program} {w : World} {K : PySem.W.Frag} {mg : Str → Option Value} {base : Heap} {f : Addr} {fd : FuncData} (F : FunU K "__init__" "UnknownNote.__init__" s_UnknownNote f fd) : FnOk P w K mg base (L2N.CX P w) 1 f fd ["self", "note"] (spXI K "note") :=
  fn_okX F S_UnknownNote rfl fun cdv A' outer s H E => pss_one (ps_ost (pv 0) (pv 1))
abbrev s_UnknownPair : Stmt := inClass (topS 6) 0
theorem S_UnknownPair : FnScope ["self", "pair"] ["self", "pair"] (defScope s_UnknownPair) := ⟨rfl, rfl, rfl, by decide +kernel, rfl, by decide +kernel, by decide +kernel⟩
theorem ok_UnknownPair {P : Program} {w : World} {K : PySem.W.Frag} {mg : Str → Option Value} {base : Heap} {f : Addr} {fd : FuncData} (F : FunU K "__init__" "UnknownPair.__init__" s_UnknownPair f fd) : FnOk P w K mg base (L2N.CX P w) 1 f fd ["self", "pair"] (spXI K "pair") :=
  fn_okX F S_UnknownPair rfl fun cdv A' outer s H E => pss_one (ps_ost (pv 0) (pv 1))
abbrev s__law_cell : Stmt := topS 17
theorem S__law_cell : FnScope N__law_cell ["_law_script", "_law_k"] (defScope s__law_cell) := ⟨rfl, rfl, rfl, by decide +kernel, rfl, by decide +kernel, by decide +kernel⟩
section
variable {P : Program} {w : World} {K : PySem.W.Frag} {mg : Str → Option Value} {base : Heap}
theorem ok__law_cell {f : Addr} {fd : FuncData} (F : FunU K "_law_cell" "_law_cell" s__law_cell f fd)  (z_len : mg "len" = none)  : FnOk P w K mg base (L2N.CX P w) 1 f fd ["_law_script", "_law_k"] (spO K 2 (relF (F__law_cell K))) := by
  refine fn_okF (N := N__law_cell) (b := B__law_cell K) F S__law_cell rfl fun cdv A' outer s H E hr tk po => ⟨_, (pss_cons (ps_if (pt_cmpR op_lt (pv 1) (pe_callB (cr_lenK K) (by rfl) z_len (by decide +kernel) (pa_cons (pv 0) pa_nil)) (nomark _)) (pss_one (ps_ret (pe_ix (ix_seqK K) (pv 0) (pv 1) (fun _ _ => rfl)))) pss_nil)
 (pss_one (ps_ret pe_int))), fun ε => ?_⟩
  unfold B__law_cell
  exact (sf_seq (sf_if (fun _ => (tf_test (ef_op (of_ii fun _ _ => rfl) ef_var (ef_cb cf_len (af_cons ef_var af_nil))))) (sf_ret (fun _ => (ef_op of_ix ef_var ef_var))) sf_next)
  (sf_ret (fun _ => ef_c)))
end
abbrev s__law_digits : Stmt := topS 18
theorem S__law_digits : FnScope N__law_digits ["_law_script", "_law_k", "_law_count"] (defScope s__law_digits) := ⟨rfl, rfl, rfl, by decide +kernel, rfl, by decide +kernel, by decide +kernel⟩
section
variable {P : Program} {w : World} {K : PySem.W.Frag} {mg : Str → Option Value} {base : Heap}
theorem ok__law_digits {f : Addr} {fd : FuncData} (F : FunU K "_law_digits" "_law_digits" s__law_digits f fd) (F__law_cell : Fx P w K mg base 1 "_law_cell" ["_law_script", "_law_k"] (spO K 2 (relF (F__law_cell K)))) (z_int : mg "int" = none) (z_range : mg "range" = none)  : FnOk P w K mg base (L2N.CX P w) 2 f fd ["_law_script", "_law_k", "_law_count"] (spO K 3 (relF (F__law_digits K))) := by
  refine fn_okF (N := N__law_digits) (b := B__law_digits K) F S__law_digits rfl fun cdv A' outer s H E hr tk po => ⟨_, (pss_cons (ps_set (i := 3) S__law_digits.nd rfl (Or.inl rfl) (pe_callFS tk F__law_cell hr (pa_cons (pv 0) (pa_cons (pv 1) pa_nil))))
 (pss_cons (ps_set (i := 4) S__law_digits.nd rfl (Or.inl rfl) (pv 3))
 (pss_cons (ps_if (pt_cmpR op_lt (pv 3) (pe_op op_pow pe_int pe_int) (nomark _)) (pss_one (ps_set (i := 4) S__law_digits.nd rfl (Or.inl rfl) pe_int)) pss_nil)
 (pss_cons (ps_set (i := 5) S__law_digits.nd rfl (Or.inl rfl) (pe_lst pa_nil))
 (pss_cons (ps_for po rfl (pi_range1 (by rfl) z_range (pa_cons (pv 2) pa_nil)) (pg_name (i := 6) S__law_digits.nd rfl (Or.inl rfl))
  (pss_one (ps_if (pt_cmpR op_gt (pv 4) pe_int (nomark _)) (pss_cons (ps_expr (pe_bm PySem.F.plainAttrs_list PySem.F.slot_list_append PySem.F.type_list_append mt_append (pv 5) (pa_cons (pe_op op_mod (pe_callTy cr_int (by rfl) z_int (by decide +kernel) (pa_cons (pv 4) pa_nil)) pe_int) pa_nil)))
 (pss_one (ps_set (i := 4) S__law_digits.nd rfl (Or.inl rfl) (pe_op op_fdiv (pv 4) pe_int)))) (pss_cons (ps_set (i := 7) S__law_digits.nd rfl (Or.inl rfl) (pe_op op_mod (pe_callTy cr_int (by rfl) z_int (by decide +kernel) (pa_cons (pe_op op_mul (pv 3) (pe_op (op_addK K) (pe_op (op_addK K) pe_int (pe_op op_mul pe_int (pv 6))) (pe_op op_mul pe_int (pv 1)))) pa_nil)) pe_int))
 (pss_cons (ps_set (i := 7) S__law_digits.nd rfl (Or.inl rfl) (pe_op op_mod (pe_callTy cr_int (by rfl) z_int (by decide +kernel) (pa_cons (pe_op (op_addK K) (pe_op op_mul (pv 7) (pv 7)) (pe_op op_mul pe_int (pv 7))) pa_nil)) pe_int))
 (pss_one (ps_expr (pe_bm PySem.F.plainAttrs_list PySem.F.slot_list_append PySem.F.type_list_append mt_append (pv 5) (pa_cons (pe_op op_mod (pe_callTy cr_int (by rfl) z_int (by decide +kernel) (pa_cons (pe_op op_fdiv (pv 7) pe_int) pa_nil)) pe_int) pa_nil)))))))))
 (pss_one (ps_ret (pv 5)))))))), fun ε => ?_⟩
  unfold B__law_digits
  exact (sf_seq (sf_set (fun _ => (ef_callS len__law_cell (af_cons ef_var (af_cons ef_var af_nil)))))
  (sf_seq (sf_set (fun _ => ef_var))
  (sf_seq (sf_if (fun _ => (tf_test (ef_op (of_ii fun _ _ => rfl) ef_var (ef_op of_pow ef_c ef_c)))) (sf_set (fun _ => ef_c)) sf_next)
  (sf_seq (sf_setN (fun _ => (ef_lst af_nil)))
  (sf_seq (sf_for (if_rng1 fun _ => (af_cons ef_var af_nil)) gf_name (sf_wipe (sf_if (fun _ => (tf_test (ef_op (of_ii fun _ _ => rfl) ef_var ef_c))) (sf_seq (sf_app (fun _ => (ef_op of_mod (ef_cb cf_int (af_cons ef_var af_nil)) ef_c)))
  (sf_set (fun _ => (ef_op of_div ef_var ef_c)))) (sf_seq (sf_set (fun _ => (ef_op of_mod (ef_cb cf_int (af_cons (ef_op of_mul ef_var (ef_op of_add (ef_op of_add ef_c (ef_op of_mul ef_c ef_var)) (ef_op of_mul ef_c ef_var))) af_nil)) ef_c)))
  (sf_seq (sf_set (fun _ => (ef_op of_mod (ef_cb cf_int (af_cons (ef_op of_add (ef_op of_mul ef_var ef_var) (ef_op of_mul ef_c ef_var)) af_nil)) ef_c)))
  (sf_app (fun _ => (ef_op of_mod (ef_cb cf_int (af_cons (ef_op of_div ef_var ef_c) af_nil)) ef_c))))))))
  (sf_ret (fun _ => ef_var)))))))
end
abbrev s__law_names : Stmt := topS 19
theorem S__law_names : FnScope N__law_names ["_law_script", "_law_k", "_law_count"] (defScope s__law_names) := ⟨rfl, rfl, rfl, by decide +kernel, rfl, by decide +kernel, by decide +kernel⟩
section
variable {P : Program} {w : World} {K : PySem.W.Frag} {mg : Str → Option Value} {base : Heap}
theorem ok__law_names {f : Addr} {fd : FuncData} (F : FunU K "_law_names" "_law_names" s__law_names f fd) (F__law_digits : Fx P w K mg base 2 "_law_digits" ["_law_script", "_law_k", "_law_count"] (spO K 3 (relF (F__law_digits K)))) (z_int : mg "int" = none) (z_range : mg "range" = none)  : FnOk P w K mg base (L2N.CX P w) 3 f fd ["_law_script", "_law_k", "_law_count"] (spO K 3 (relF (F__law_names K))) := by
  refine fn_okF (N := N__law_names) (b := B__law_names K) F S__law_names rfl fun cdv A' outer s H E hr tk po => ⟨_, (pss_cons (ps_set (i := 3) S__law_names.nd rfl (Or.inr rfl) pe_str)
 (pss_cons (ps_set (i := 4) S__law_names.nd rfl (Or.inr rfl) (pe_callFS tk F__law_digits hr (pa_cons (pv 0) (pa_cons (pv 1) (pa_cons pe_int pa_nil)))))
 (pss_cons (ps_set (i := 5) S__law_names.nd rfl (Or.inl rfl) (pe_joinK K pe_str (pe_lc (own := [("_law_j", 8)]) (by rfl) S__law_names.nd (pi_range1 (by rfl) z_range (pa_cons (pe_op op_mod (pe_callTy cr_int (by rfl) z_int (by decide +kernel) (pa_cons (pe_ix (ix_seqK K) (pv 4) pe_int (fun _ _ => rfl)) pa_nil)) pe_int) pa_nil)) (blkOk_by (own := [("_law_j", 8)]) (N := N__law_names) (sc := (defScope s__law_names)) (by decide +kernel)) (fun _ _ _ _ _ => (pg_name (i := 8) S__law_names.nd rfl (Or.inl rfl))) (fun _ _ _ _ _ => pts_nil) (fun _ _ _ _ _ => (pe_ix (ix_seqK K) (pv 3) (pe_op op_mod (pe_callTy cr_int (by rfl) z_int (by decide +kernel) (pa_cons (pe_op (op_addK K) (pe_op op_mul pe_int (pe_ix (ix_seqK K) (pv 4) (pe_op (op_addK K) pe_int (pv 8)) (fun _ _ => rfl))) (pe_op op_mul pe_int (pv 8))) pa_nil)) pe_int) (fun _ _ => rfl))))))
 (pss_cons (ps_set (i := 6) S__law_names.nd rfl (Or.inl rfl) (pe_joinK K pe_str (pe_lc (own := [("_law_j", 8)]) (by rfl) S__law_names.nd (pi_range1 (by rfl) z_range (pa_cons (pe_op op_mod (pe_callTy cr_int (by rfl) z_int (by decide +kernel) (pa_cons (pe_ix (ix_seqK K) (pv 4) pe_int (fun _ _ => rfl)) pa_nil)) pe_int) pa_nil)) (blkOk_by (own := [("_law_j", 8)]) (N := N__law_names) (sc := (defScope s__law_names)) (by decide +kernel)) (fun _ _ _ _ _ => (pg_name (i := 8) S__law_names.nd rfl (Or.inl rfl))) (fun _ _ _ _ _ => pts_nil) (fun _ _ _ _ _ => (pe_ix (ix_seqK K) (pv 3) (pe_op op_mod (pe_callTy cr_int (by rfl) z_int (by decide +kernel) (pa_cons (pe_op (op_addK K) (pe_op op_mul pe_int (pe_ix (ix_seqK K) (pv 4) (pe_op (op_addK K) pe_int (pv 8)) (fun _ _ => rfl))) (pe_op op_mul pe_int (pv 8))) pa_nil)) pe_int) (fun _ _ => rfl))))))
 (pss_cons (ps_set (i := 7) S__law_names.nd rfl (Or.inl rfl) (pe_lst pa_nil))
 (pss_cons (ps_for po rfl (pi_range1 (by rfl) z_range (pa_cons (pv 2) pa_nil)) (pg_name (i := 8) S__law_names.nd rfl (Or.inl rfl))
  (pss_cons (ps_set (i := 9) S__law_names.nd rfl (Or.inl rfl) (pe_op (op_addK K) (pv 5) (pe_ix (ix_seqK K) (pv 3) (pe_op op_mod (pe_callTy cr_int (by rfl) z_int (by decide +kernel) (pa_cons (pe_op (op_addK K) (pe_op (op_addK K) (pe_op op_mul pe_int (pe_ix (ix_seqK K) (pv 4) pe_int (fun _ _ => rfl))) (pe_ix (ix_seqK K) (pv 4) pe_int (fun _ _ => rfl))) (pe_op op_mul pe_int (pv 8))) pa_nil)) pe_int) (fun _ _ => rfl))))
 (pss_cons (ps_if (PW.pt (pw_or (pt_cmpR (op_eqK K hr.units) (pe_op op_mod (pe_callTy cr_int (by rfl) z_int (by decide +kernel) (pa_cons (pe_ix (ix_seqK K) (pv 4) pe_int (fun _ _ => rfl)) pa_nil)) pe_int) pe_int (nomark _)) (pw_or1 (pt_cmpR (op_eqK K hr.units) (pe_op op_mod (pe_callTy cr_int (by rfl) z_int (by decide +kernel) (pa_cons (pv 8) pa_nil)) pe_int) pe_int (nomark _))))) (pss_one (ps_set (i := 9) S__law_names.nd rfl (Or.inl rfl) (pe_op (op_addK K) (pv 9) (pv 6)))) pss_nil)
 (pss_one (ps_expr (pe_bm PySem.F.plainAttrs_list PySem.F.slot_list_append PySem.F.type_list_append mt_append (pv 7) (pa_cons (pv 9) pa_nil)))))))
 (pss_one (ps_ret (pv 7))))))))), fun ε => ?_⟩
  unfold B__law_names
  exact (sf_seq (sf_set (fun _ => ef_c))
  (sf_seq (sf_set (fun _ => (ef_callS len__law_digits (af_cons ef_var (af_cons ef_var (af_cons ef_c af_nil))))))
  (sf_seq (sf_set (fun _ => (ef_join ef_c (ef_lc (if_rng1 fun _ => (af_cons (ef_op of_mod (ef_cb cf_int (af_cons (ef_op of_ix ef_var ef_c) af_nil)) ef_c) af_nil)) gf_name (by decide) tf_yes (ef_op of_ix ef_var (ef_op of_mod (ef_cb cf_int (af_cons (ef_op of_add (ef_op of_mul ef_c (ef_op of_ix ef_var (ef_op of_add ef_c ef_var))) (ef_op of_mul ef_c ef_var)) af_nil)) ef_c))))))
  (sf_seq (sf_set (fun _ => (ef_join ef_c (ef_lc (if_rng1 fun _ => (af_cons (ef_op of_mod (ef_cb cf_int (af_cons (ef_op of_ix ef_var ef_c) af_nil)) ef_c) af_nil)) gf_name (by decide) tf_yes (ef_op of_ix ef_var (ef_op of_mod (ef_cb cf_int (af_cons (ef_op of_add (ef_op of_mul ef_c (ef_op of_ix ef_var (ef_op of_add ef_c ef_var))) (ef_op of_mul ef_c ef_var)) af_nil)) ef_c))))))
  (sf_seq (sf_setN (fun _ => (ef_lst af_nil)))
  (sf_seq (sf_for (if_rng1 fun _ => (af_cons ef_var af_nil)) gf_name (sf_wipe (sf_seq (sf_set (fun _ => (ef_op of_add ef_var (ef_op of_ix ef_var (ef_op of_mod (ef_cb cf_int (af_cons (ef_op of_add (ef_op of_add (ef_op of_mul ef_c (ef_op of_ix ef_var ef_c)) (ef_op of_ix ef_var ef_c)) (ef_op of_mul ef_c ef_var)) af_nil)) ef_c)))))
  (sf_seq (sf_if (fun _ => (tf_or (tf_test (ef_op of_eq (ef_op of_mod (ef_cb cf_int (af_cons (ef_op of_ix ef_var ef_c) af_nil)) ef_c) ef_c)) (tf_test (ef_op of_eq (ef_op of_mod (ef_cb cf_int (af_cons ef_var af_nil)) ef_c) ef_c)))) (sf_set (fun _ => (ef_op of_add ef_var ef_var))) sf_next)
  (sf_app (fun _ => ef_var))))))
  (sf_ret (fun _ => ef_var))))))))
end
abbrev s__law_bare : Stmt := topS 21
theorem S__law_bare : FnScope N__law_bare ["_law_k"] (defScope s__law_bare) := ⟨rfl, rfl, rfl, by decide +kernel, rfl, by decide +kernel, by decide +kernel⟩
section
variable {P : Program} {w : World} {K : PySem.W.Frag} {mg : Str → Option Value} {base : Heap}
theorem ok__law_bare {f : Addr} {fd : FuncData} (F : FunU K "_law_bare" "_law_bare" s__law_bare f fd) (X_BadWindow : Xo K mg "BadWindow" (ga K "BadWindow")) (X_NoAnswer : Xo K mg "NoAnswer" (ga K "NoAnswer")) (X_NoMove : Xo K mg "NoMove" (ga K "NoMove")) (X_SizeMismatch : Xo K mg "SizeMismatch" (ga K "SizeMismatch")) (X_TooMany : Xo K mg "TooMany" (ga K "TooMany")) (z_ValueError : mg "ValueError" = none) (z_isinstance : mg "isinstance" = none) (z_range : mg "range" = none) (g_BadAhead : mg "BadAhead" = some (.ref (ga K "BadAhead"))) (g_BadLine : mg "BadLine" = some (.ref (ga K "BadLine"))) (g_BadName : mg "BadName" = some (.ref (ga K "BadName"))) (g_BadPlace : mg "BadPlace" = some (.ref (ga K "BadPlace"))) (g_BadRule : mg "BadRule" = some (.ref (ga K "BadRule"))) (g_BadWindow : mg "BadWindow" = some (.ref (ga K "BadWindow"))) (g_NoAnswer : mg "NoAnswer" = some (.ref (ga K "NoAnswer"))) (g_NoMove : mg "NoMove" = some (.ref (ga K "NoMove"))) (g_Silent : mg "Silent" = some (.ref (ga K "Silent"))) (g_SizeMismatch : mg "SizeMismatch" = some (.ref (ga K "SizeMismatch"))) (g_TooMany : mg "TooMany" = some (.ref (ga K "TooMany"))) (g_Twice : mg "Twice" = some (.ref (ga K "Twice"))) (g_UnknownNote : mg "UnknownNote" = some (.ref (ga K "UnknownNote"))) (g_UnknownPair : mg "UnknownPair" = some (.ref (ga K "UnknownPair"))) (g_VoiceError : mg "VoiceError" = some (.ref (ga K "VoiceError"))) : FnOk P w K mg base (L2N.CX P w) 3 f fd ["_law_k"] (spO K 1 (relF (F__law_bare K))) := by
  refine fn_okF (N := N__law_bare) (b := B__law_bare K) F S__law_bare rfl fun cdv A' outer s H E hr tk po => ⟨_, (pss_one (ps_tryN K (i := 1) rfl rfl S__law_bare.nd rfl rfl ⟨rfl, by decide, .inl g_VoiceError⟩ tk (fun W pn xe tk po => (pss_cons (ps_if (pt_cmpR (op_eqK K hr.units) (pv 0) pe_int (nomark _)) (pss_one (L2N.ps_raise rfl tk (pmk_ownF0 X_TooMany))) pss_nil)
 (pss_cons (ps_if (pt_cmpR (op_eqK K hr.units) (pv 0) pe_int (nomark _)) (pss_one (L2N.ps_raise rfl tk (pmk_ownF0 X_SizeMismatch))) pss_nil)
 (pss_cons (ps_if (pt_cmpR (op_eqK K hr.units) (pv 0) pe_int (nomark _)) (pss_one (L2N.ps_raise rfl tk (pmk_ownF0 X_BadWindow))) pss_nil)
 (pss_cons (ps_if (pt_cmpR (op_eqK K hr.units) (pv 0) pe_int (nomark _)) (pss_one (L2N.ps_raise rfl tk (pmk_ownF0 X_NoAnswer))) pss_nil)
 (pss_one (L2N.ps_raise rfl tk (pmk_ownF0 X_NoMove)))))))) (fun a oe cls d pn hz hf => (pss_cons (ps_set (i := 2) S__law_bare.nd rfl (Or.inl rfl) (pe_lst (pa_cons (pe_callB (call_isX hz.zc hf) (by rfl) z_isinstance (by decide +kernel) (pa_cons (pv 1) (pa_cons (pe_glob (v := .ref (ga K "TooMany")) rfl g_TooMany rfl) pa_nil))) (pa_cons (pe_callB (call_isX hz.zc hf) (by rfl) z_isinstance (by decide +kernel) (pa_cons (pv 1) (pa_cons (pe_glob (v := .ref (ga K "SizeMismatch")) rfl g_SizeMismatch rfl) pa_nil))) (pa_cons (pe_callB (call_isX hz.zc hf) (by rfl) z_isinstance (by decide +kernel) (pa_cons (pv 1) (pa_cons (pe_glob (v := .ref (ga K "BadWindow")) rfl g_BadWindow rfl) pa_nil))) pa_nil)))))
 (pss_cons (ps_set (i := 2) S__law_bare.nd rfl (Or.inl rfl) (pe_op (op_addK K) (pv 2) (pe_lst (pa_cons (pe_callB (call_isX hz.zc hf) (by rfl) z_isinstance (by decide +kernel) (pa_cons (pv 1) (pa_cons (pe_glob (v := .ref (ga K "NoAnswer")) rfl g_NoAnswer rfl) pa_nil))) (pa_cons (pe_callB (call_isX hz.zc hf) (by rfl) z_isinstance (by decide +kernel) (pa_cons (pv 1) (pa_cons (pe_glob (v := .ref (ga K "NoMove")) rfl g_NoMove rfl) pa_nil))) pa_nil)))))
 (pss_cons (ps_if (PW.pt (pw_or (pt_cmpR (op_neK K hr.units) (pv 2) (pe_lcH (own := [("_law_j", 3)]) (hot_of hz hf) S__law_bare.nd (L2H.pi_range1H (by rfl) z_range (pa_cons pe_int pa_nil)) (blkOk_by (own := [("_law_j", 3)]) (N := N__law_bare) (sc := (defScope s__law_bare)) (by decide +kernel)) (fun _ _ _ _ _ => (pg_name (i := 3) S__law_bare.nd rfl (Or.inl rfl))) (fun _ _ _ _ _ => pts_nil) (fun _ _ _ _ _ => (pe_cmpR (op_eqK K hr.units) (pv 3) (pe_op op_sub (pv 0) pe_int) (nomark _)))) (nomark _)) (pw_or1 (pt_not (pt_truK K (pe_callB (call_isX hz.zc hf) (by rfl) z_isinstance (by decide +kernel) (pa_cons (pv 1) (pa_cons (pe_bltn (v := .ty "ValueError") (u := .type "ValueError") (by rfl) z_ValueError (by decide +kernel) rfl) pa_nil)))))))) (pss_one (ps_ret pe_bl)) pss_nil)
 (pss_cons (ps_set (i := 2) S__law_bare.nd rfl (Or.inl rfl) (pe_lst (pa_cons (pe_callB (call_isX hz.zc hf) (by rfl) z_isinstance (by decide +kernel) (pa_cons (pv 1) (pa_cons (pe_glob (v := .ref (ga K "BadName")) rfl g_BadName rfl) pa_nil))) (pa_cons (pe_callB (call_isX hz.zc hf) (by rfl) z_isinstance (by decide +kernel) (pa_cons (pv 1) (pa_cons (pe_glob (v := .ref (ga K "Twice")) rfl g_Twice rfl) pa_nil))) (pa_cons (pe_callB (call_isX hz.zc hf) (by rfl) z_isinstance (by decide +kernel) (pa_cons (pv 1) (pa_cons (pe_glob (v := .ref (ga K "UnknownNote")) rfl g_UnknownNote rfl) pa_nil))) pa_nil)))))
 (pss_cons (ps_set (i := 2) S__law_bare.nd rfl (Or.inl rfl) (pe_op (op_addK K) (pv 2) (pe_lst (pa_cons (pe_callB (call_isX hz.zc hf) (by rfl) z_isinstance (by decide +kernel) (pa_cons (pv 1) (pa_cons (pe_glob (v := .ref (ga K "UnknownPair")) rfl g_UnknownPair rfl) pa_nil))) (pa_cons (pe_callB (call_isX hz.zc hf) (by rfl) z_isinstance (by decide +kernel) (pa_cons (pv 1) (pa_cons (pe_glob (v := .ref (ga K "BadRule")) rfl g_BadRule rfl) pa_nil))) (pa_cons (pe_callB (call_isX hz.zc hf) (by rfl) z_isinstance (by decide +kernel) (pa_cons (pv 1) (pa_cons (pe_glob (v := .ref (ga K "BadLine")) rfl g_BadLine rfl) pa_nil))) pa_nil))))))
 (pss_cons (ps_set (i := 2) S__law_bare.nd rfl (Or.inl rfl) (pe_op (op_addK K) (pv 2) (pe_lst (pa_cons (pe_callB (call_isX hz.zc hf) (by rfl) z_isinstance (by decide +kernel) (pa_cons (pv 1) (pa_cons (pe_glob (v := .ref (ga K "BadPlace")) rfl g_BadPlace rfl) pa_nil))) (pa_cons (pe_callB (call_isX hz.zc hf) (by rfl) z_isinstance (by decide +kernel) (pa_cons (pv 1) (pa_cons (pe_glob (v := .ref (ga K "BadAhead")) rfl g_BadAhead rfl) pa_nil))) (pa_cons (pe_callB (call_isX hz.zc hf) (by rfl) z_isinstance (by decide +kernel) (pa_cons (pv 1) (pa_cons (pe_glob (v := .ref (ga K "Silent")) rfl g_Silent rfl) pa_nil))) pa_nil))))))
 (pss_one (ps_ret (pe_cmpR (op_ninK K (have z := u65 hr; z)) pe_bl (pv 2) (by rfl))))))))))))), fun ε => ?_⟩
  unfold B__law_bare M__law_bare_1
  exact (sf_try (fun _ => (sf_seq (sf_if (fun _ => (tf_test (ef_op of_eq ef_var ef_c))) sf_raiseO sf_next)
  (sf_seq (sf_if (fun _ => (tf_test (ef_op of_eq ef_var ef_c))) sf_raiseO sf_next)
  (sf_seq (sf_if (fun _ => (tf_test (ef_op of_eq ef_var ef_c))) sf_raiseO sf_next)
  (sf_seq (sf_if (fun _ => (tf_test (ef_op of_eq ef_var ef_c))) sf_raiseO sf_next)
  sf_raiseO))))) (fun _ _ _ => (sf_seq (sf_set (fun _ => (ef_lst (af_cons ef_isX (af_cons ef_isX (af_cons ef_isX af_nil))))))
  (sf_seq (sf_set (fun _ => (ef_op of_add ef_var (ef_lst (af_cons ef_isX (af_cons ef_isX af_nil))))))
  (sf_seq (sf_if (fun _ => (tf_or (tf_test (ef_op of_ne ef_var (ef_lc1 (if_rng1 fun _ => (af_cons ef_c af_nil)) gf_name (by decide) tf_yes (ef_op of_eq ef_var (ef_op (of_ii fun _ _ => rfl) ef_var ef_c))))) (tf_not (tf_tru ef_isX)))) (sf_ret (fun _ => ef_c)) sf_next)
  (sf_seq (sf_set (fun _ => (ef_lst (af_cons ef_isX (af_cons ef_isX (af_cons ef_isX af_nil))))))
  (sf_seq (sf_set (fun _ => (ef_op of_add ef_var (ef_lst (af_cons ef_isX (af_cons ef_isX (af_cons ef_isX af_nil)))))))
  (sf_seq (sf_set (fun _ => (ef_op of_add ef_var (ef_lst (af_cons ef_isX (af_cons ef_isX (af_cons ef_isX af_nil)))))))
  (sf_ret (fun _ => (ef_op of_nin ef_c ef_var)))))))))))
end
abbrev s__law_raised : Stmt := topS 20
theorem S__law_raised : FnScope N__law_raised ["_law_k", "_law_name", "_law_number"] (defScope s__law_raised) := ⟨rfl, rfl, rfl, by decide +kernel, rfl, by decide +kernel, by decide +kernel⟩
section
variable {P : Program} {w : World} {K : PySem.W.Frag} {mg : Str → Option Value} {base : Heap}
theorem ok__law_raised {f : Addr} {fd : FuncData} (F : FunU K "_law_raised" "_law_raised" s__law_raised f fd) (F__law_bare : Fx P w K mg base 3 "_law_bare" ["_law_k"] (spO K 1 (relF (F__law_bare K)))) (X_BadAhead : Xc P w K mg base "BadAhead" "ahead" (ga K "BadAhead")) (X_BadLine : Xc P w K mg base "BadLine" "number" (ga K "BadLine")) (X_BadName : Xc P w K mg base "BadName" "name" (ga K "BadName")) (X_BadPlace : Xc P w K mg base "BadPlace" "place" (ga K "BadPlace")) (X_BadRule : Xc P w K mg base "BadRule" "rule" (ga K "BadRule")) (X_Silent : Xc P w K mg base "Silent" "voice" (ga K "Silent")) (X_Twice : Xc P w K mg base "Twice" "name" (ga K "Twice")) (X_UnknownNote : Xc P w K mg base "UnknownNote" "note" (ga K "UnknownNote")) (X_UnknownPair : Xc P w K mg base "UnknownPair" "pair" (ga K "UnknownPair")) (z_ValueError : mg "ValueError" = none) (z_isinstance : mg "isinstance" = none) (z_range : mg "range" = none) (g_BadAhead : mg "BadAhead" = some (.ref (ga K "BadAhead"))) (g_BadLine : mg "BadLine" = some (.ref (ga K "BadLine"))) (g_BadName : mg "BadName" = some (.ref (ga K "BadName"))) (g_BadPlace : mg "BadPlace" = some (.ref (ga K "BadPlace"))) (g_BadRule : mg "BadRule" = some (.ref (ga K "BadRule"))) (g_BadWindow : mg "BadWindow" = some (.ref (ga K "BadWindow"))) (g_NoAnswer : mg "NoAnswer" = some (.ref (ga K "NoAnswer"))) (g_NoMove : mg "NoMove" = some (.ref (ga K "NoMove"))) (g_Silent : mg "Silent" = some (.ref (ga K "Silent"))) (g_SizeMismatch : mg "SizeMismatch" = some (.ref (ga K "SizeMismatch"))) (g_TooMany : mg "TooMany" = some (.ref (ga K "TooMany"))) (g_Twice : mg "Twice" = some (.ref (ga K "Twice"))) (g_UnknownNote : mg "UnknownNote" = some (.ref (ga K "UnknownNote"))) (g_UnknownPair : mg "UnknownPair" = some (.ref (ga K "UnknownPair"))) (g_VoiceError : mg "VoiceError" = some (.ref (ga K "VoiceError"))) : FnOk P w K mg base (L2N.CX P w) 4 f fd ["_law_k", "_law_name", "_law_number"] (spO K 3 (relF (F__law_raised K))) := by
  refine fn_okF (N := N__law_raised) (b := B__law_raised K) F S__law_raised rfl fun cdv A' outer s H E hr tk po => ⟨_, (pss_one (ps_tryN K (i := 3) rfl rfl S__law_raised.nd rfl rfl ⟨rfl, by decide, .inl g_VoiceError⟩ tk (fun W pn xe tk po => (pss_cons (ps_if (pt_cmpR (op_eqK K hr.units) (pv 0) pe_int (nomark _)) (pss_one (ps_raiseFT tk X_BadName hr (pa_cons (pv 1) pa_nil))) pss_nil)
 (pss_cons (ps_if (pt_cmpR (op_eqK K hr.units) (pv 0) pe_int (nomark _)) (pss_one (ps_raiseFT tk X_Twice hr (pa_cons (pv 1) pa_nil))) pss_nil)
 (pss_cons (ps_if (pt_cmpR (op_eqK K hr.units) (pv 0) pe_int (nomark _)) (pss_one (ps_raiseFT tk X_UnknownNote hr (pa_cons (pv 1) pa_nil))) pss_nil)
 (pss_cons (ps_if (pt_cmpR (op_eqK K hr.units) (pv 0) pe_int (nomark _)) (pss_one (ps_raiseFT tk X_UnknownPair hr (pa_cons (pe_tup (pa_cons (pv 1) (pa_cons (pv 1) pa_nil))) pa_nil))) pss_nil)
 (pss_cons (ps_if (pt_cmpR (op_eqK K hr.units) (pv 0) pe_int (nomark _)) (pss_one (ps_raiseFT tk X_BadRule hr (pa_cons (pe_tup (pa_cons pe_str (pa_cons (pv 1) (pa_cons (pv 1) pa_nil)))) pa_nil))) pss_nil)
 (pss_cons (ps_if (pt_cmpR (op_eqK K hr.units) (pv 0) pe_int (nomark _)) (pss_one (ps_raiseFT tk X_BadLine hr (pa_cons (pv 2) pa_nil))) pss_nil)
 (pss_cons (ps_if (pt_cmpR (op_eqK K hr.units) (pv 0) pe_int (nomark _)) (pss_one (ps_raiseFT tk X_BadPlace hr (pa_cons (pv 2) pa_nil))) pss_nil)
 (pss_cons (ps_if (pt_cmpR (op_eqK K hr.units) (pv 0) pe_int (nomark _)) (pss_one (ps_raiseFT tk X_BadAhead hr (pa_cons (pv 2) pa_nil))) pss_nil)
 (pss_cons (ps_if (pt_cmpR (op_eqK K hr.units) (pv 0) pe_int (nomark _)) (pss_one (ps_raiseFT tk X_Silent hr (pa_cons (pe_lst (pa_cons (pv 1) pa_nil)) pa_nil))) pss_nil)
 (pss_one (ps_ret (pe_callFS tk F__law_bare hr (pa_cons (pv 0) pa_nil)))))))))))))) (fun a oe cls d pn hz hf => (pss_cons (ps_set (i := 4) S__law_raised.nd rfl (Or.inl rfl) (pe_lst (pa_cons (pe_callB (call_isX hz.zc hf) (by rfl) z_isinstance (by decide +kernel) (pa_cons (pv 3) (pa_cons (pe_glob (v := .ref (ga K "BadName")) rfl g_BadName rfl) pa_nil))) (pa_cons (pe_callB (call_isX hz.zc hf) (by rfl) z_isinstance (by decide +kernel) (pa_cons (pv 3) (pa_cons (pe_glob (v := .ref (ga K "Twice")) rfl g_Twice rfl) pa_nil))) (pa_cons (pe_callB (call_isX hz.zc hf) (by rfl) z_isinstance (by decide +kernel) (pa_cons (pv 3) (pa_cons (pe_glob (v := .ref (ga K "UnknownNote")) rfl g_UnknownNote rfl) pa_nil))) pa_nil)))))
 (pss_cons (ps_set (i := 4) S__law_raised.nd rfl (Or.inl rfl) (pe_op (op_addK K) (pv 4) (pe_lst (pa_cons (pe_callB (call_isX hz.zc hf) (by rfl) z_isinstance (by decide +kernel) (pa_cons (pv 3) (pa_cons (pe_glob (v := .ref (ga K "UnknownPair")) rfl g_UnknownPair rfl) pa_nil))) (pa_cons (pe_callB (call_isX hz.zc hf) (by rfl) z_isinstance (by decide +kernel) (pa_cons (pv 3) (pa_cons (pe_glob (v := .ref (ga K "BadRule")) rfl g_BadRule rfl) pa_nil))) (pa_cons (pe_callB (call_isX hz.zc hf) (by rfl) z_isinstance (by decide +kernel) (pa_cons (pv 3) (pa_cons (pe_glob (v := .ref (ga K "BadLine")) rfl g_BadLine rfl) pa_nil))) pa_nil))))))
 (pss_cons (ps_set (i := 4) S__law_raised.nd rfl (Or.inl rfl) (pe_op (op_addK K) (pv 4) (pe_lst (pa_cons (pe_callB (call_isX hz.zc hf) (by rfl) z_isinstance (by decide +kernel) (pa_cons (pv 3) (pa_cons (pe_glob (v := .ref (ga K "BadPlace")) rfl g_BadPlace rfl) pa_nil))) (pa_cons (pe_callB (call_isX hz.zc hf) (by rfl) z_isinstance (by decide +kernel) (pa_cons (pv 3) (pa_cons (pe_glob (v := .ref (ga K "BadAhead")) rfl g_BadAhead rfl) pa_nil))) (pa_cons (pe_callB (call_isX hz.zc hf) (by rfl) z_isinstance (by decide +kernel) (pa_cons (pv 3) (pa_cons (pe_glob (v := .ref (ga K "Silent")) rfl g_Silent rfl) pa_nil))) pa_nil))))))
 (pss_cons (ps_set (i := 4) S__law_raised.nd rfl (Or.inl rfl) (pe_op (op_addK K) (pv 4) (pe_lst (pa_cons (pe_callB (call_isX hz.zc hf) (by rfl) z_isinstance (by decide +kernel) (pa_cons (pv 3) (pa_cons (pe_glob (v := .ref (ga K "TooMany")) rfl g_TooMany rfl) pa_nil))) (pa_cons (pe_callB (call_isX hz.zc hf) (by rfl) z_isinstance (by decide +kernel) (pa_cons (pv 3) (pa_cons (pe_glob (v := .ref (ga K "SizeMismatch")) rfl g_SizeMismatch rfl) pa_nil))) (pa_cons (pe_callB (call_isX hz.zc hf) (by rfl) z_isinstance (by decide +kernel) (pa_cons (pv 3) (pa_cons (pe_glob (v := .ref (ga K "BadWindow")) rfl g_BadWindow rfl) pa_nil))) pa_nil))))))
 (pss_cons (ps_set (i := 4) S__law_raised.nd rfl (Or.inl rfl) (pe_op (op_addK K) (pv 4) (pe_lst (pa_cons (pe_callB (call_isX hz.zc hf) (by rfl) z_isinstance (by decide +kernel) (pa_cons (pv 3) (pa_cons (pe_glob (v := .ref (ga K "NoAnswer")) rfl g_NoAnswer rfl) pa_nil))) (pa_cons (pe_callB (call_isX hz.zc hf) (by rfl) z_isinstance (by decide +kernel) (pa_cons (pv 3) (pa_cons (pe_glob (v := .ref (ga K "NoMove")) rfl g_NoMove rfl) pa_nil))) pa_nil)))))
 (pss_cons (ps_if (PW.pt (pw_or (pt_cmpR (op_neK K hr.units) (pv 4) (pe_lcH (own := [("_law_j", 5)]) (hot_of hz hf) S__law_raised.nd (L2H.pi_range1H (by rfl) z_range (pa_cons pe_int pa_nil)) (blkOk_by (own := [("_law_j", 5)]) (N := N__law_raised) (sc := (defScope s__law_raised)) (by decide +kernel)) (fun _ _ _ _ _ => (pg_name (i := 5) S__law_raised.nd rfl (Or.inl rfl))) (fun _ _ _ _ _ => pts_nil) (fun _ _ _ _ _ => (pe_cmpR (op_eqK K hr.units) (pv 5) (pv 0) (nomark _)))) (nomark _)) (pw_or1 (pt_not (pt_truK K (pe_callB (call_isX hz.zc hf) (by rfl) z_isinstance (by decide +kernel) (pa_cons (pv 3) (pa_cons (pe_bltn (v := .ty "ValueError") (u := .type "ValueError") (by rfl) z_ValueError (by decide +kernel) rfl) pa_nil)))))))) (pss_one (ps_ret pe_bl)) pss_nil)
 (pss_cons (ps_if (pt_cmpR op_lt (pv 0) pe_int (nomark _)) (pss_one (ps_ret (pe_cmpR (op_eqK K hr.units) (pe_xfU hz.zc hf (pv 3)) (pv 1) (nomark _)))) pss_nil)
 (pss_cons (ps_if (pt_cmpR (op_eqK K hr.units) (pv 0) pe_int (nomark _)) (pss_one (ps_ret (pe_cmpR (op_eqK K hr.units) (pe_xfU hz.zc hf (pv 3)) (pv 1) (nomark _)))) pss_nil)
 (pss_cons (ps_if (pt_cmpR op_lt (pv 0) pe_int (nomark _)) (pss_one (ps_ret (pe_ifExp (pt_cmpR (op_eqK K hr.units) (pv 0) pe_int (nomark _)) (pe_cmpR (op_eqK K hr.units) (pe_xfU hz.zc hf (pv 3)) (pe_tup (pa_cons (pv 1) (pa_cons (pv 1) pa_nil))) (nomark _)) (pe_cmpR (op_eqK K hr.units) (pe_xfU hz.zc hf (pv 3)) (pe_tup (pa_cons pe_str (pa_cons (pv 1) (pa_cons (pv 1) pa_nil)))) (nomark _))))) pss_nil)
 (pss_cons (ps_if (pt_cmpR op_lt (pv 0) pe_int (nomark _)) (pss_one (ps_ret (pe_ifExp (pt_cmpR (op_eqK K hr.units) (pv 0) pe_int (nomark _)) (pe_cmpR (op_eqK K hr.units) (pe_xfU hz.zc hf (pv 3)) (pv 2) (nomark _)) (pe_cmpR (op_eqK K hr.units) (pe_xfU hz.zc hf (pv 3)) (pv 2) (nomark _))))) pss_nil)
 (pss_one (ps_ret (pe_ifExp (pt_cmpR (op_eqK K hr.units) (pv 0) pe_int (nomark _)) (pe_cmpR (op_eqK K hr.units) (pe_xfU hz.zc hf (pv 3)) (pv 2) (nomark _)) (pe_cmpR (op_eqK K hr.units) (pe_xfU hz.zc hf (pv 3)) (pe_lst (pa_cons (pv 1) pa_nil)) (nomark _)))))))))))))))))), fun ε => ?_⟩
  unfold B__law_raised M__law_raised_1
  exact (sf_try (fun _ => (sf_seq (sf_if (fun _ => (tf_test (ef_op of_eq ef_var ef_c))) (sf_raiseF X_BadName.oex X_BadName.nf (fun _ => ef_var)) sf_next)
  (sf_seq (sf_if (fun _ => (tf_test (ef_op of_eq ef_var ef_c))) (sf_raiseF X_Twice.oex X_Twice.nf (fun _ => ef_var)) sf_next)
  (sf_seq (sf_if (fun _ => (tf_test (ef_op of_eq ef_var ef_c))) (sf_raiseF X_UnknownNote.oex X_UnknownNote.nf (fun _ => ef_var)) sf_next)
  (sf_seq (sf_if (fun _ => (tf_test (ef_op of_eq ef_var ef_c))) (sf_raiseF X_UnknownPair.oex X_UnknownPair.nf (fun _ => (ef_tup (af_cons ef_var (af_cons ef_var af_nil))))) sf_next)
  (sf_seq (sf_if (fun _ => (tf_test (ef_op of_eq ef_var ef_c))) (sf_raiseF X_BadRule.oex X_BadRule.nf (fun _ => (ef_tup (af_cons ef_c (af_cons ef_var (af_cons ef_var af_nil)))))) sf_next)
  (sf_seq (sf_if (fun _ => (tf_test (ef_op of_eq ef_var ef_c))) (sf_raiseF X_BadLine.oex X_BadLine.nf (fun _ => ef_var)) sf_next)
  (sf_seq (sf_if (fun _ => (tf_test (ef_op of_eq ef_var ef_c))) (sf_raiseF X_BadPlace.oex X_BadPlace.nf (fun _ => ef_var)) sf_next)
  (sf_seq (sf_if (fun _ => (tf_test (ef_op of_eq ef_var ef_c))) (sf_raiseF X_BadAhead.oex X_BadAhead.nf (fun _ => ef_var)) sf_next)
  (sf_seq (sf_if (fun _ => (tf_test (ef_op of_eq ef_var ef_c))) (sf_raiseF X_Silent.oex X_Silent.nf (fun _ => (ef_lst (af_cons ef_var af_nil)))) sf_next)
  (sf_ret (fun _ => (ef_callS len__law_bare (af_cons ef_var af_nil)))))))))))))) (fun _ _ _ => (sf_seq (sf_set (fun _ => (ef_lst (af_cons ef_isX (af_cons ef_isX (af_cons ef_isX af_nil))))))
  (sf_seq (sf_set (fun _ => (ef_op of_add ef_var (ef_lst (af_cons ef_isX (af_cons ef_isX (af_cons ef_isX af_nil)))))))
  (sf_seq (sf_set (fun _ => (ef_op of_add ef_var (ef_lst (af_cons ef_isX (af_cons ef_isX (af_cons ef_isX af_nil)))))))
  (sf_seq (sf_set (fun _ => (ef_op of_add ef_var (ef_lst (af_cons ef_isX (af_cons ef_isX (af_cons ef_isX af_nil)))))))
  (sf_seq (sf_set (fun _ => (ef_op of_add ef_var (ef_lst (af_cons ef_isX (af_cons ef_isX af_nil))))))
  (sf_seq (sf_if (fun _ => (tf_or (tf_test (ef_op of_ne ef_var (ef_lc1 (if_rng1 fun _ => (af_cons ef_c af_nil)) gf_name (by decide) tf_yes (ef_op of_eq ef_var ef_var)))) (tf_not (tf_tru ef_isX)))) (sf_ret (fun _ => ef_c)) sf_next)
  (sf_seq (sf_if (fun _ => (tf_test (ef_op (of_ii fun _ _ => rfl) ef_var ef_c))) (sf_ret (fun _ => (ef_op of_eq ef_xf ef_var))) sf_next)
  (sf_seq (sf_if (fun _ => (tf_test (ef_op of_eq ef_var ef_c))) (sf_ret (fun _ => (ef_op of_eq ef_xf ef_var))) sf_next)
  (sf_seq (sf_if (fun _ => (tf_test (ef_op (of_ii fun _ _ => rfl) ef_var ef_c))) (sf_ret (fun _ => (ef_if (tf_test (ef_op of_eq ef_var ef_c)) (ef_op of_eq ef_xf (ef_tup (af_cons ef_var (af_cons ef_var af_nil)))) (ef_op of_eq ef_xf (ef_tup (af_cons ef_c (af_cons ef_var (af_cons ef_var af_nil)))))))) sf_next)
  (sf_seq (sf_if (fun _ => (tf_test (ef_op (of_ii fun _ _ => rfl) ef_var ef_c))) (sf_ret (fun _ => (ef_if (tf_test (ef_op of_eq ef_var ef_c)) (ef_op of_eq ef_xf ef_var) (ef_op of_eq ef_xf ef_var)))) sf_next)
  (sf_ret (fun _ => (ef_if (tf_test (ef_op of_eq ef_var ef_c)) (ef_op of_eq ef_xf ef_var) (ef_op of_eq ef_xf (ef_lst (af_cons ef_var af_nil))))))))))))))))))
end
abbrev s_law : Stmt := topS 22
theorem S_law : FnScope N_law ["_law_script"] (defScope s_law) := ⟨rfl, rfl, rfl, by decide +kernel, rfl, by decide +kernel, by decide +kernel⟩
section
variable {P : Program} {w : World} {K : PySem.W.Frag} {mg : Str → Option Value} {base : Heap}
theorem ok_law {f : Addr} {fd : FuncData} (F : FunU K "law" "law" s_law f fd) (F__law_cell : Fx P w K mg base 1 "_law_cell" ["_law_script", "_law_k"] (spO K 2 (relF (F__law_cell K)))) (F__law_names : Fx P w K mg base 3 "_law_names" ["_law_script", "_law_k", "_law_count"] (spO K 3 (relF (F__law_names K)))) (F__law_raised : Fx P w K mg base 4 "_law_raised" ["_law_k", "_law_name", "_law_number"] (spO K 3 (relF (F__law_raised K)))) (z_int : mg "int" = none) (z_range : mg "range" = none)  : FnOk P w K mg base (L2N.CX P w) 5 f fd ["_law_script"] (spO K 1 (relF (F_law K))) := by
  refine fn_okF (N := N_law) (b := B_law K) F S_law rfl fun cdv A' outer s H E hr tk po => ⟨_, (pss_cons (ps_set (i := 1) S_law.nd rfl (Or.inl rfl) (pe_callFS tk F__law_names hr (pa_cons (pv 0) (pa_cons pe_int (pa_cons pe_int pa_nil)))))
 (pss_cons (ps_set (i := 2) S_law.nd rfl (Or.inl rfl) (pe_op op_mod (pe_callTy cr_int (by rfl) z_int (by decide +kernel) (pa_cons (pe_callFS tk F__law_cell hr (pa_cons (pv 0) (pa_cons pe_int pa_nil))) pa_nil)) (pe_op op_pow pe_int pe_int)))
 (pss_cons (ps_for po rfl (pi_range1 (by rfl) z_range (pa_cons pe_int pa_nil)) (pg_name (i := 3) S_law.nd rfl (Or.inl rfl))
  (pss_one (ps_for po rfl (pi_seqK K (pv 1)) (pg_name (i := 4) S_law.nd rfl (Or.inl rfl))
  (pss_one (ps_if (PW.pt (pw_or (pt_not (pt_truK K (pe_callFS tk F__law_raised hr (pa_cons (pv 3) (pa_cons (pv 4) (pa_cons (pv 2) pa_nil)))))) (pw_or1 (pt_not (pt_truK K (pe_callFS tk F__law_raised hr (pa_cons (pv 3) (pa_cons (pv 4) (pa_cons (pe_op op_sub pe_int (pv 2)) pa_nil))))))))) (pss_one (ps_ret pe_bl)) pss_nil)))))
 (pss_one (ps_ret pe_bl))))), fun ε => ?_⟩
  unfold B_law L_law_2 L_law_1
  exact (sf_seq (sf_set (fun _ => (ef_callS len__law_names (af_cons ef_var (af_cons ef_c (af_cons ef_c af_nil))))))
  (sf_seq (sf_set (fun _ => (ef_op of_mod (ef_cb cf_int (af_cons (ef_callS len__law_cell (af_cons ef_var (af_cons ef_c af_nil))) af_nil)) (ef_op of_pow ef_c ef_c))))
  (sf_seq (sf_for (if_rng1 fun _ => (af_cons ef_c af_nil)) gf_name (sf_wipe (sf_for if_var gf_name (sf_wipe (sf_if (fun _ => (tf_or (tf_not (tf_tru (ef_callS len__law_raised (af_cons ef_var (af_cons ef_var (af_cons ef_var af_nil)))))) (tf_not (tf_tru (ef_callS len__law_raised (af_cons ef_var (af_cons ef_var (af_cons (ef_op (of_ii fun _ _ => rfl) ef_c ef_var) af_nil)))))))) (sf_ret (fun _ => ef_c)) sf_next)))))
  (sf_ret (fun _ => ef_c)))))
end
end Pf

namespace Pf
open PySem L2 Lv
open Classical
def d__law_cell : He5.DefA := ⟨fun K => ga K "_law_cell", "_law_cell", "_law_cell", defArgs s__law_cell, defBody s__law_cell, defScope s__law_cell, [], []⟩
def d__law_digits : He5.DefA := ⟨fun K => ga K "_law_digits", "_law_digits", "_law_digits", defArgs s__law_digits, defBody s__law_digits, defScope s__law_digits, [], []⟩
def d__law_names : He5.DefA := ⟨fun K => ga K "_law_names", "_law_names", "_law_names", defArgs s__law_names, defBody s__law_names, defScope s__law_names, [], []⟩
def d__law_bare : He5.DefA := ⟨fun K => ga K "_law_bare", "_law_bare", "_law_bare", defArgs s__law_bare, defBody s__law_bare, defScope s__law_bare, [], []⟩
def d__law_raised : He5.DefA := ⟨fun K => ga K "_law_raised", "_law_raised", "_law_raised", defArgs s__law_raised, defBody s__law_raised, defScope s__law_raised, [], []⟩
def d_law : He5.DefA := ⟨fun K => ga K "law", "law", "law", defArgs s_law, defBody s_law, defScope s_law, [], []⟩
def d_BadAhead : He5.DefA := ⟨fun K => He.ma K (ga K "BadAhead") "__init__", "__init__", "BadAhead.__init__", defArgs s_BadAhead, defBody s_BadAhead, defScope s_BadAhead, [], []⟩
def d_BadLine : He5.DefA := ⟨fun K => He.ma K (ga K "BadLine") "__init__", "__init__", "BadLine.__init__", defArgs s_BadLine, defBody s_BadLine, defScope s_BadLine, [], []⟩
def d_BadName : He5.DefA := ⟨fun K => He.ma K (ga K "BadName") "__init__", "__init__", "BadName.__init__", defArgs s_BadName, defBody s_BadName, defScope s_BadName, [], []⟩
def d_BadPlace : He5.DefA := ⟨fun K => He.ma K (ga K "BadPlace") "__init__", "__init__", "BadPlace.__init__", defArgs s_BadPlace, defBody s_BadPlace, defScope s_BadPlace, [], []⟩
def d_BadRule : He5.DefA := ⟨fun K => He.ma K (ga K "BadRule") "__init__", "__init__", "BadRule.__init__", defArgs s_BadRule, defBody s_BadRule, defScope s_BadRule, [], []⟩
def d_Silent : He5.DefA := ⟨fun K => He.ma K (ga K "Silent") "__init__", "__init__", "Silent.__init__", defArgs s_Silent, defBody s_Silent, defScope s_Silent, [], []⟩
def d_Twice : He5.DefA := ⟨fun K => He.ma K (ga K "Twice") "__init__", "__init__", "Twice.__init__", defArgs s_Twice, defBody s_Twice, defScope s_Twice, [], []⟩
def d_UnknownNote : He5.DefA := ⟨fun K => He.ma K (ga K "UnknownNote") "__init__", "__init__", "UnknownNote.__init__", defArgs s_UnknownNote, defBody s_UnknownNote, defScope s_UnknownNote, [], []⟩
def d_UnknownPair : He5.DefA := ⟨fun K => He.ma K (ga K "UnknownPair") "__init__", "__init__", "UnknownPair.__init__", defArgs s_UnknownPair, defBody s_UnknownPair, defScope s_UnknownPair, [], []⟩
def fn : List He5.DefA := [d__law_cell, d__law_digits, d__law_names, d__law_bare, d__law_raised, d_law, d_BadAhead, d_BadLine, d_BadName, d_BadPlace, d_BadRule, d_Silent, d_Twice, d_UnknownNote, d_UnknownPair]
def fa : List He.Fa := [.glo "BadAhead", .glo "BadLine", .glo "BadName", .glo "BadPlace", .glo "BadRule", .glo "BadWindow", .glo "NoAnswer", .glo "NoMove", .glo "Silent", .glo "SizeMismatch", .glo "TooMany", .glo "Twice", .glo "UnknownNote", .glo "UnknownPair", .glo "VoiceError", .glo "_law_bare", .glo "_law_cell", .glo "_law_digits", .glo "_law_names", .glo "_law_raised", .glo "law", .free "ValueError", .free "int", .free "isinstance", .free "len", .free "range"]
def ts : List He.Tab := []
def exL (K : PySem.W.Frag) : List Bool := [ecB K (ga K "BadAhead"),
  noatB K (ga K "BadAhead") "ahead",
  exmB K (ga K "BadAhead") (ga K "VoiceError") true,
  kitB1 K (ga K "BadAhead") (.ref (ga K "BadAhead")) true,
  kitB1 K (ga K "BadAhead") (.ref (ga K "BadLine")) false,
  kitB1 K (ga K "BadAhead") (.ref (ga K "BadName")) false,
  kitB1 K (ga K "BadAhead") (.ref (ga K "BadPlace")) false,
  kitB1 K (ga K "BadAhead") (.ref (ga K "BadRule")) false,
  kitB1 K (ga K "BadAhead") (.ref (ga K "BadWindow")) false,
  kitB1 K (ga K "BadAhead") (.ref (ga K "NoAnswer")) false,
  kitB1 K (ga K "BadAhead") (.ref (ga K "NoMove")) false,
  kitB1 K (ga K "BadAhead") (.ref (ga K "Silent")) false,
  kitB1 K (ga K "BadAhead") (.ref (ga K "SizeMismatch")) false,
  kitB1 K (ga K "BadAhead") (.ref (ga K "TooMany")) false,
  kitB1 K (ga K "BadAhead") (.ref (ga K "Twice")) false,
  kitB1 K (ga K "BadAhead") (.ref (ga K "UnknownNote")) false,
  kitB1 K (ga K "BadAhead") (.ref (ga K "UnknownPair")) false,
  kitB1 K (ga K "BadAhead") (.type "ValueError") true,
  ecB K (ga K "BadLine"),
  noatB K (ga K "BadLine") "number",
  exmB K (ga K "BadLine") (ga K "VoiceError") true,
  kitB1 K (ga K "BadLine") (.ref (ga K "BadAhead")) false,
  kitB1 K (ga K "BadLine") (.ref (ga K "BadLine")) true,
  kitB1 K (ga K "BadLine") (.ref (ga K "BadName")) false,
  kitB1 K (ga K "BadLine") (.ref (ga K "BadPlace")) false,
  kitB1 K (ga K "BadLine") (.ref (ga K "BadRule")) false,
  kitB1 K (ga K "BadLine") (.ref (ga K "BadWindow")) false,
  kitB1 K (ga K "BadLine") (.ref (ga K "NoAnswer")) false,
  kitB1 K (ga K "BadLine") (.ref (ga K "NoMove")) false,
  kitB1 K (ga K "BadLine") (.ref (ga K "Silent")) false,
  kitB1 K (ga K "BadLine") (.ref (ga K "SizeMismatch")) false,
  kitB1 K (ga K "BadLine") (.ref (ga K "TooMany")) false,
  kitB1 K (ga K "BadLine") (.ref (ga K "Twice")) false,
  kitB1 K (ga K "BadLine") (.ref (ga K "UnknownNote")) false,
  kitB1 K (ga K "BadLine") (.ref (ga K "UnknownPair")) false,
  kitB1 K (ga K "BadLine") (.type "ValueError") true,
  ecB K (ga K "BadName"),
  noatB K (ga K "BadName") "name",
  exmB K (ga K "BadName") (ga K "VoiceError") true,
  kitB1 K (ga K "BadName") (.ref (ga K "BadAhead")) false,
  kitB1 K (ga K "BadName") (.ref (ga K "BadLine")) false,
  kitB1 K (ga K "BadName") (.ref (ga K "BadName")) true,
  kitB1 K (ga K "BadName") (.ref (ga K "BadPlace")) false,
  kitB1 K (ga K "BadName") (.ref (ga K "BadRule")) false,
  kitB1 K (ga K "BadName") (.ref (ga K "BadWindow")) false,
  kitB1 K (ga K "BadName") (.ref (ga K "NoAnswer")) false,
  kitB1 K (ga K "BadName") (.ref (ga K "NoMove")) false,
  kitB1 K (ga K "BadName") (.ref (ga K "Silent")) false,
  kitB1 K (ga K "BadName") (.ref (ga K "SizeMismatch")) false,
  kitB1 K (ga K "BadName") (.ref (ga K "TooMany")) false,
  kitB1 K (ga K "BadName") (.ref (ga K "Twice")) false,
  kitB1 K (ga K "BadName") (.ref (ga K "UnknownNote")) false,
  kitB1 K (ga K "BadName") (.ref (ga K "UnknownPair")) false,
  kitB1 K (ga K "BadName") (.type "ValueError") true,
  ecB K (ga K "BadPlace"),
  noatB K (ga K "BadPlace") "place",
  exmB K (ga K "BadPlace") (ga K "VoiceError") true,
  kitB1 K (ga K "BadPlace") (.ref (ga K "BadAhead")) false,
  kitB1 K (ga K "BadPlace") (.ref (ga K "BadLine")) false,
  kitB1 K (ga K "BadPlace") (.ref (ga K "BadName")) false,
  kitB1 K (ga K "BadPlace") (.ref (ga K "BadPlace")) true,
  kitB1 K (ga K "BadPlace") (.ref (ga K "BadRule")) false,
  kitB1 K (ga K "BadPlace") (.ref (ga K "BadWindow")) false,
  kitB1 K (ga K "BadPlace") (.ref (ga K "NoAnswer")) false,
  kitB1 K (ga K "BadPlace") (.ref (ga K "NoMove")) false,
  kitB1 K (ga K "BadPlace") (.ref (ga K "Silent")) false,
  kitB1 K (ga K "BadPlace") (.ref (ga K "SizeMismatch")) false,
  kitB1 K (ga K "BadPlace") (.ref (ga K "TooMany")) false,
  kitB1 K (ga K "BadPlace") (.ref (ga K "Twice")) false,
  kitB1 K (ga K "BadPlace") (.ref (ga K "UnknownNote")) false,
  kitB1 K (ga K "BadPlace") (.ref (ga K "UnknownPair")) false,
  kitB1 K (ga K "BadPlace") (.type "ValueError") true,
  ecB K (ga K "BadRule"),
  noatB K (ga K "BadRule") "rule",
  exmB K (ga K "BadRule") (ga K "VoiceError") true,
  kitB1 K (ga K "BadRule") (.ref (ga K "BadAhead")) false,
  kitB1 K (ga K "BadRule") (.ref (ga K "BadLine")) false,
  kitB1 K (ga K "BadRule") (.ref (ga K "BadName")) false,
  kitB1 K (ga K "BadRule") (.ref (ga K "BadPlace")) false,
  kitB1 K (ga K "BadRule") (.ref (ga K "BadRule")) true,
  kitB1 K (ga K "BadRule") (.ref (ga K "BadWindow")) false,
  kitB1 K (ga K "BadRule") (.ref (ga K "NoAnswer")) false,
  kitB1 K (ga K "BadRule") (.ref (ga K "NoMove")) false,
  kitB1 K (ga K "BadRule") (.ref (ga K "Silent")) false,
  kitB1 K (ga K "BadRule") (.ref (ga K "SizeMismatch")) false,
  kitB1 K (ga K "BadRule") (.ref (ga K "TooMany")) false,
  kitB1 K (ga K "BadRule") (.ref (ga K "Twice")) false,
  kitB1 K (ga K "BadRule") (.ref (ga K "UnknownNote")) false,
  kitB1 K (ga K "BadRule") (.ref (ga K "UnknownPair")) false,
  kitB1 K (ga K "BadRule") (.type "ValueError") true,
  ecB K (ga K "BadWindow"),
  exmB K (ga K "BadWindow") (ga K "VoiceError") true,
  kitB1 K (ga K "BadWindow") (.ref (ga K "BadAhead")) false,
  kitB1 K (ga K "BadWindow") (.ref (ga K "BadLine")) false,
  kitB1 K (ga K "BadWindow") (.ref (ga K "BadName")) false,
  kitB1 K (ga K "BadWindow") (.ref (ga K "BadPlace")) false,
  kitB1 K (ga K "BadWindow") (.ref (ga K "BadRule")) false,
  kitB1 K (ga K "BadWindow") (.ref (ga K "BadWindow")) true,
  kitB1 K (ga K "BadWindow") (.ref (ga K "NoAnswer")) false,
  kitB1 K (ga K "BadWindow") (.ref (ga K "NoMove")) false,
  kitB1 K (ga K "BadWindow") (.ref (ga K "Silent")) false,
  kitB1 K (ga K "BadWindow") (.ref (ga K "SizeMismatch")) false,
  kitB1 K (ga K "BadWindow") (.ref (ga K "TooMany")) false,
  kitB1 K (ga K "BadWindow") (.ref (ga K "Twice")) false,
  kitB1 K (ga K "BadWindow") (.ref (ga K "UnknownNote")) false,
  kitB1 K (ga K "BadWindow") (.ref (ga K "UnknownPair")) false,
  kitB1 K (ga K "BadWindow") (.type "ValueError") true,
  ecB K (ga K "NoAnswer"),
  exmB K (ga K "NoAnswer") (ga K "VoiceError") true,
  kitB1 K (ga K "NoAnswer") (.ref (ga K "BadAhead")) false,
  kitB1 K (ga K "NoAnswer") (.ref (ga K "BadLine")) false,
  kitB1 K (ga K "NoAnswer") (.ref (ga K "BadName")) false,
  kitB1 K (ga K "NoAnswer") (.ref (ga K "BadPlace")) false,
  kitB1 K (ga K "NoAnswer") (.ref (ga K "BadRule")) false,
  kitB1 K (ga K "NoAnswer") (.ref (ga K "BadWindow")) false,
  kitB1 K (ga K "NoAnswer") (.ref (ga K "NoAnswer")) true,
  kitB1 K (ga K "NoAnswer") (.ref (ga K "NoMove")) false,
  kitB1 K (ga K "NoAnswer") (.ref (ga K "Silent")) false,
  kitB1 K (ga K "NoAnswer") (.ref (ga K "SizeMismatch")) false,
  kitB1 K (ga K "NoAnswer") (.ref (ga K "TooMany")) false,
  kitB1 K (ga K "NoAnswer") (.ref (ga K "Twice")) false,
  kitB1 K (ga K "NoAnswer") (.ref (ga K "UnknownNote")) false,
  kitB1 K (ga K "NoAnswer") (.ref (ga K "UnknownPair")) false,
  kitB1 K (ga K "NoAnswer") (.type "ValueError") true,
  ecB K (ga K "NoMove"),
  exmB K (ga K "NoMove") (ga K "VoiceError") true,
  kitB1 K (ga K "NoMove") (.ref (ga K "BadAhead")) false,
  kitB1 K (ga K "NoMove") (.ref (ga K "BadLine")) false,
  kitB1 K (ga K "NoMove") (.ref (ga K "BadName")) false,
  kitB1 K (ga K "NoMove") (.ref (ga K "BadPlace")) false,
  kitB1 K (ga K "NoMove") (.ref (ga K "BadRule")) false,
  kitB1 K (ga K "NoMove") (.ref (ga K "BadWindow")) false,
  kitB1 K (ga K "NoMove") (.ref (ga K "NoAnswer")) false,
  kitB1 K (ga K "NoMove") (.ref (ga K "NoMove")) true,
  kitB1 K (ga K "NoMove") (.ref (ga K "Silent")) false,
  kitB1 K (ga K "NoMove") (.ref (ga K "SizeMismatch")) false,
  kitB1 K (ga K "NoMove") (.ref (ga K "TooMany")) false,
  kitB1 K (ga K "NoMove") (.ref (ga K "Twice")) false,
  kitB1 K (ga K "NoMove") (.ref (ga K "UnknownNote")) false,
  kitB1 K (ga K "NoMove") (.ref (ga K "UnknownPair")) false,
  kitB1 K (ga K "NoMove") (.type "ValueError") true,
  ecB K (ga K "Silent"),
  noatB K (ga K "Silent") "voice",
  exmB K (ga K "Silent") (ga K "VoiceError") true,
  kitB1 K (ga K "Silent") (.ref (ga K "BadAhead")) false,
  kitB1 K (ga K "Silent") (.ref (ga K "BadLine")) false,
  kitB1 K (ga K "Silent") (.ref (ga K "BadName")) false,
  kitB1 K (ga K "Silent") (.ref (ga K "BadPlace")) false,
  kitB1 K (ga K "Silent") (.ref (ga K "BadRule")) false,
  kitB1 K (ga K "Silent") (.ref (ga K "BadWindow")) false,
  kitB1 K (ga K "Silent") (.ref (ga K "NoAnswer")) false,
  kitB1 K (ga K "Silent") (.ref (ga K "NoMove")) false,
  kitB1 K (ga K "Silent") (.ref (ga K "Silent")) true,
  kitB1 K (ga K "Silent") (.ref (ga K "SizeMismatch")) false,
  kitB1 K (ga K "Silent") (.ref (ga K "TooMany")) false,
  kitB1 K (ga K "Silent") (.ref (ga K "Twice")) false,
  kitB1 K (ga K "Silent") (.ref (ga K "UnknownNote")) false,
  kitB1 K (ga K "Silent") (.ref (ga K "UnknownPair")) false,
  kitB1 K (ga K "Silent") (.type "ValueError") true,
  ecB K (ga K "SizeMismatch"),
  exmB K (ga K "SizeMismatch") (ga K "VoiceError") true,
  kitB1 K (ga K "SizeMismatch") (.ref (ga K "BadAhead")) false,
  kitB1 K (ga K "SizeMismatch") (.ref (ga K "BadLine")) false,
  kitB1 K (ga K "SizeMismatch") (.ref (ga K "BadName")) false,
  kitB1 K (ga K "SizeMismatch") (.ref (ga K "BadPlace")) false,
  kitB1 K (ga K "SizeMismatch") (.ref (ga K "BadRule")) false,
  kitB1 K (ga K "SizeMismatch") (.ref (ga K "BadWindow")) false,
  kitB1 K (ga K "SizeMismatch") (.ref (ga K "NoAnswer")) false,
  kitB1 K (ga K "SizeMismatch") (.ref (ga K "NoMove")) false,
  kitB1 K (ga K "SizeMismatch") (.ref (ga K "Silent")) false,
  kitB1 K (ga K "SizeMismatch") (.ref (ga K "SizeMismatch")) true,
  kitB1 K (ga K "SizeMismatch") (.ref (ga K "TooMany")) false,
  kitB1 K (ga K "SizeMismatch") (.ref (ga K "Twice")) false,
  kitB1 K (ga K "SizeMismatch") (.ref (ga K "UnknownNote")) false,
  kitB1 K (ga K "SizeMismatch") (.ref (ga K "UnknownPair")) false,
  kitB1 K (ga K "SizeMismatch") (.type "ValueError") true,
  ecB K (ga K "TooMany"),
  exmB K (ga K "TooMany") (ga K "VoiceError") true,
  kitB1 K (ga K "TooMany") (.ref (ga K "BadAhead")) false,
  kitB1 K (ga K "TooMany") (.ref (ga K "BadLine")) false,
  kitB1 K (ga K "TooMany") (.ref (ga K "BadName")) false,
  kitB1 K (ga K "TooMany") (.ref (ga K "BadPlace")) false,
  kitB1 K (ga K "TooMany") (.ref (ga K "BadRule")) false,
  kitB1 K (ga K "TooMany") (.ref (ga K "BadWindow")) false,
  kitB1 K (ga K "TooMany") (.ref (ga K "NoAnswer")) false,
  kitB1 K (ga K "TooMany") (.ref (ga K "NoMove")) false,
  kitB1 K (ga K "TooMany") (.ref (ga K "Silent")) false,
  kitB1 K (ga K "TooMany") (.ref (ga K "SizeMismatch")) false,
  kitB1 K (ga K "TooMany") (.ref (ga K "TooMany")) true,
  kitB1 K (ga K "TooMany") (.ref (ga K "Twice")) false,
  kitB1 K (ga K "TooMany") (.ref (ga K "UnknownNote")) false,
  kitB1 K (ga K "TooMany") (.ref (ga K "UnknownPair")) false,
  kitB1 K (ga K "TooMany") (.type "ValueError") true,
  ecB K (ga K "Twice"),
  noatB K (ga K "Twice") "name",
  exmB K (ga K "Twice") (ga K "VoiceError") true,
  kitB1 K (ga K "Twice") (.ref (ga K "BadAhead")) false,
  kitB1 K (ga K "Twice") (.ref (ga K "BadLine")) false,
  kitB1 K (ga K "Twice") (.ref (ga K "BadName")) false,
  kitB1 K (ga K "Twice") (.ref (ga K "BadPlace")) false,
  kitB1 K (ga K "Twice") (.ref (ga K "BadRule")) false,
  kitB1 K (ga K "Twice") (.ref (ga K "BadWindow")) false,
  kitB1 K (ga K "Twice") (.ref (ga K "NoAnswer")) false,
  kitB1 K (ga K "Twice") (.ref (ga K "NoMove")) false,
  kitB1 K (ga K "Twice") (.ref (ga K "Silent")) false,
  kitB1 K (ga K "Twice") (.ref (ga K "SizeMismatch")) false,
  kitB1 K (ga K "Twice") (.ref (ga K "TooMany")) false,
  kitB1 K (ga K "Twice") (.ref (ga K "Twice")) true,
  kitB1 K (ga K "Twice") (.ref (ga K "UnknownNote")) false,
  kitB1 K (ga K "Twice") (.ref (ga K "UnknownPair")) false,
  kitB1 K (ga K "Twice") (.type "ValueError") true,
  ecB K (ga K "UnknownNote"),
  noatB K (ga K "UnknownNote") "note",
  exmB K (ga K "UnknownNote") (ga K "VoiceError") true,
  kitB1 K (ga K "UnknownNote") (.ref (ga K "BadAhead")) false,
  kitB1 K (ga K "UnknownNote") (.ref (ga K "BadLine")) false,
  kitB1 K (ga K "UnknownNote") (.ref (ga K "BadName")) false,
  kitB1 K (ga K "UnknownNote") (.ref (ga K "BadPlace")) false,
  kitB1 K (ga K "UnknownNote") (.ref (ga K "BadRule")) false,
  kitB1 K (ga K "UnknownNote") (.ref (ga K "BadWindow")) false,
  kitB1 K (ga K "UnknownNote") (.ref (ga K "NoAnswer")) false,
  kitB1 K (ga K "UnknownNote") (.ref (ga K "NoMove")) false,
  kitB1 K (ga K "UnknownNote") (.ref (ga K "Silent")) false,
  kitB1 K (ga K "UnknownNote") (.ref (ga K "SizeMismatch")) false,
  kitB1 K (ga K "UnknownNote") (.ref (ga K "TooMany")) false,
  kitB1 K (ga K "UnknownNote") (.ref (ga K "Twice")) false,
  kitB1 K (ga K "UnknownNote") (.ref (ga K "UnknownNote")) true,
  kitB1 K (ga K "UnknownNote") (.ref (ga K "UnknownPair")) false,
  kitB1 K (ga K "UnknownNote") (.type "ValueError") true,
  ecB K (ga K "UnknownPair"),
  noatB K (ga K "UnknownPair") "pair",
  exmB K (ga K "UnknownPair") (ga K "VoiceError") true,
  kitB1 K (ga K "UnknownPair") (.ref (ga K "BadAhead")) false,
  kitB1 K (ga K "UnknownPair") (.ref (ga K "BadLine")) false,
  kitB1 K (ga K "UnknownPair") (.ref (ga K "BadName")) false,
  kitB1 K (ga K "UnknownPair") (.ref (ga K "BadPlace")) false,
  kitB1 K (ga K "UnknownPair") (.ref (ga K "BadRule")) false,
  kitB1 K (ga K "UnknownPair") (.ref (ga K "BadWindow")) false,
  kitB1 K (ga K "UnknownPair") (.ref (ga K "NoAnswer")) false,
  kitB1 K (ga K "UnknownPair") (.ref (ga K "NoMove")) false,
  kitB1 K (ga K "UnknownPair") (.ref (ga K "Silent")) false,
  kitB1 K (ga K "UnknownPair") (.ref (ga K "SizeMismatch")) false,
  kitB1 K (ga K "UnknownPair") (.ref (ga K "TooMany")) false,
  kitB1 K (ga K "UnknownPair") (.ref (ga K "Twice")) false,
  kitB1 K (ga K "UnknownPair") (.ref (ga K "UnknownNote")) false,
  kitB1 K (ga K "UnknownPair") (.ref (ga K "UnknownPair")) true,
  kitB1 K (ga K "UnknownPair") (.type "ValueError") true,
  oexB K (ga K "BadAhead"),
  xinB K (ga K "BadAhead"),
  noatB K (ga K "BadAhead") "ahead",
  oexB K (ga K "BadLine"),
  xinB K (ga K "BadLine"),
  noatB K (ga K "BadLine") "number",
  oexB K (ga K "BadName"),
  xinB K (ga K "BadName"),
  noatB K (ga K "BadName") "name",
  oexB K (ga K "BadPlace"),
  xinB K (ga K "BadPlace"),
  noatB K (ga K "BadPlace") "place",
  oexB K (ga K "BadRule"),
  xinB K (ga K "BadRule"),
  noatB K (ga K "BadRule") "rule",
  xoB K (ga K "BadWindow"),
  xoB K (ga K "NoAnswer"),
  xoB K (ga K "NoMove"),
  oexB K (ga K "Silent"),
  xinB K (ga K "Silent"),
  noatB K (ga K "Silent") "voice",
  xoB K (ga K "SizeMismatch"),
  xoB K (ga K "TooMany"),
  oexB K (ga K "Twice"),
  xinB K (ga K "Twice"),
  noatB K (ga K "Twice") "name",
  oexB K (ga K "UnknownNote"),
  xinB K (ga K "UnknownNote"),
  noatB K (ga K "UnknownNote") "note",
  oexB K (ga K "UnknownPair"),
  xinB K (ga K "UnknownPair"),
  noatB K (ga K "UnknownPair") "pair"]
def exB (K : PySem.W.Frag) : Bool := (exL K).all id
abbrev R : PySem.W.OpenRow := PySem.W.OpenLaw.row PySem.Challenge.rw_lookvoice_k48_errors
abbrev hk : PySem.W.Hook := hookZ 6 fa fn ts exB
def ob (s : PySem.W.SharedT) : AlZ := obsZ 6 fa fn ts exB (HandSHeadRun.getT s)
theorem ob_eq (s : PySem.W.SharedT) : ob s = hk.obs s.abs := obsZ_eq (HandSHeadRun.getT_eq s)
def loose : List Str := (["VoiceError", "BadName", "Twice", "TooMany", "UnknownNote", "UnknownPair", "BadRule", "BadLine", "BadPlace", "SizeMismatch", "BadAhead", "BadWindow", "NoAnswer", "NoMove", "Silent", "_law_cell", "_law_digits", "_law_names", "_law_raised", "_law_bare"] : List Str)
theorem run_false (w : World) : HandSHeadRun.RunEq R (PySem.W.view R.prog [22]) hk ob 6000 loose (w.withFollow "special-get-raises" false) := by
  intro os
  kernel_rfl
theorem run_true (w : World) : HandSHeadRun.RunEq R (PySem.W.view R.prog [22]) hk ob 6000 loose (w.withFollow "special-get-raises" true) := by
  intro os
  kernel_rfl
theorem run (w : World) : HandSHeadRun.RunEq R (PySem.W.view R.prog [22]) hk ob 6000 loose w := PySem.W.byRow2 "special-get-raises" (P := fun w => HandSHeadRun.RunEq R (PySem.W.view R.prog [22]) hk ob 6000 loose w) run_false run_true w
theorem facts {P : Program} {w : World} {K : PySem.W.Frag} {h : Heap} {mg : Str → Option Value} {f : Addr} (X : K.In h) (G : h.Ns mainGlobals mg) (hfa : mg ("law" : Str) = some (.ref f)) (c : SaysZ fa fn ts exB w K) :
    Kf K ∧ ∃ fd : FuncData, (∀ (s : Shared) (v : Value), BindsTo s fd ⟨[v], []⟩ [("_law_script", v)]) ∧ ∀ base : Heap, K.In base → base.Ns mainGlobals mg → FnOk P w K mg base (L2N.CX P w) 5 f fd ["_law_script"] (spO K 1 (relF (F_law K))) := by
  have cd := c.a
  have g_BadAhead : mg "BadAhead" = some (.ref (ga K "BadAhead")) := He.glo_ok X G (cd.fact 0 (f := .glo "BadAhead") rfl)
  have g_BadLine : mg "BadLine" = some (.ref (ga K "BadLine")) := He.glo_ok X G (cd.fact 1 (f := .glo "BadLine") rfl)
  have g_BadName : mg "BadName" = some (.ref (ga K "BadName")) := He.glo_ok X G (cd.fact 2 (f := .glo "BadName") rfl)
  have g_BadPlace : mg "BadPlace" = some (.ref (ga K "BadPlace")) := He.glo_ok X G (cd.fact 3 (f := .glo "BadPlace") rfl)
  have g_BadRule : mg "BadRule" = some (.ref (ga K "BadRule")) := He.glo_ok X G (cd.fact 4 (f := .glo "BadRule") rfl)
  have g_BadWindow : mg "BadWindow" = some (.ref (ga K "BadWindow")) := He.glo_ok X G (cd.fact 5 (f := .glo "BadWindow") rfl)
  have g_NoAnswer : mg "NoAnswer" = some (.ref (ga K "NoAnswer")) := He.glo_ok X G (cd.fact 6 (f := .glo "NoAnswer") rfl)
  have g_NoMove : mg "NoMove" = some (.ref (ga K "NoMove")) := He.glo_ok X G (cd.fact 7 (f := .glo "NoMove") rfl)
  have g_Silent : mg "Silent" = some (.ref (ga K "Silent")) := He.glo_ok X G (cd.fact 8 (f := .glo "Silent") rfl)
  have g_SizeMismatch : mg "SizeMismatch" = some (.ref (ga K "SizeMismatch")) := He.glo_ok X G (cd.fact 9 (f := .glo "SizeMismatch") rfl)
  have g_TooMany : mg "TooMany" = some (.ref (ga K "TooMany")) := He.glo_ok X G (cd.fact 10 (f := .glo "TooMany") rfl)
  have g_Twice : mg "Twice" = some (.ref (ga K "Twice")) := He.glo_ok X G (cd.fact 11 (f := .glo "Twice") rfl)
  have g_UnknownNote : mg "UnknownNote" = some (.ref (ga K "UnknownNote")) := He.glo_ok X G (cd.fact 12 (f := .glo "UnknownNote") rfl)
  have g_UnknownPair : mg "UnknownPair" = some (.ref (ga K "UnknownPair")) := He.glo_ok X G (cd.fact 13 (f := .glo "UnknownPair") rfl)
  have g_VoiceError : mg "VoiceError" = some (.ref (ga K "VoiceError")) := He.glo_ok X G (cd.fact 14 (f := .glo "VoiceError") rfl)
  have g__law_bare : mg "_law_bare" = some (.ref (ga K "_law_bare")) := He.glo_ok X G (cd.fact 15 (f := .glo "_law_bare") rfl)
  have g__law_cell : mg "_law_cell" = some (.ref (ga K "_law_cell")) := He.glo_ok X G (cd.fact 16 (f := .glo "_law_cell") rfl)
  have g__law_digits : mg "_law_digits" = some (.ref (ga K "_law_digits")) := He.glo_ok X G (cd.fact 17 (f := .glo "_law_digits") rfl)
  have g__law_names : mg "_law_names" = some (.ref (ga K "_law_names")) := He.glo_ok X G (cd.fact 18 (f := .glo "_law_names") rfl)
  have g__law_raised : mg "_law_raised" = some (.ref (ga K "_law_raised")) := He.glo_ok X G (cd.fact 19 (f := .glo "_law_raised") rfl)
  have g_law : mg "law" = some (.ref (ga K "law")) := He.glo_ok X G (cd.fact 20 (f := .glo "law") rfl)
  have z_ValueError : mg "ValueError" = none := He.free_ok X G (cd.fact 21 (f := .free "ValueError") rfl)
  have z_int : mg "int" = none := He.free_ok X G (cd.fact 22 (f := .free "int") rfl)
  have z_isinstance : mg "isinstance" = none := He.free_ok X G (cd.fact 23 (f := .free "isinstance") rfl)
  have z_len : mg "len" = none := He.free_ok X G (cd.fact 24 (f := .free "len") rfl)
  have z_range : mg "range" = none := He.free_ok X G (cd.fact 25 (f := .free "range") rfl)
  have more : ∀ b ∈ exL K, b = true := fun b hb => List.all_eq_true.mp (show (exL K).all id = true from c.more) b hb
  have kf_ec_BadAhead : Ec K (ga K "BadAhead") := by
    have h : (ecB K (ga K "BadAhead")) = true := more _ (List.mem_of_getElem? (i := 0) rfl)
    exact ecB_ok h
  have kf_nf_BadAhead_ahead : PySem.W.findIn K (.ref (ga K "BadAhead")) "ahead" = some none := by
    have h : (noatB K (ga K "BadAhead") "ahead") = true := more _ (List.mem_of_getElem? (i := 1) rfl)
    exact He.eqO_ok h
  have kf_exm_BadAhead_VoiceError : PySem.W.exmOne K (.ref (ga K "BadAhead")) (.ref (ga K "VoiceError")) = some true := by
    have h : (exmB K (ga K "BadAhead") (ga K "VoiceError") true) = true := more _ (List.mem_of_getElem? (i := 2) rfl)
    exact of_decide_eq_true h
  have kf_kit_BadAhead_BadAhead : PySem.W.kitOne K (.ref (ga K "BadAhead")) (.ref (ga K "BadAhead")) = some true := by
    have h : (kitB1 K (ga K "BadAhead") (.ref (ga K "BadAhead")) true) = true := more _ (List.mem_of_getElem? (i := 3) rfl)
    exact of_decide_eq_true h
  have kf_kit_BadAhead_BadLine : PySem.W.kitOne K (.ref (ga K "BadAhead")) (.ref (ga K "BadLine")) = some false := by
    have h : (kitB1 K (ga K "BadAhead") (.ref (ga K "BadLine")) false) = true := more _ (List.mem_of_getElem? (i := 4) rfl)
    exact of_decide_eq_true h
  have kf_kit_BadAhead_BadName : PySem.W.kitOne K (.ref (ga K "BadAhead")) (.ref (ga K "BadName")) = some false := by
    have h : (kitB1 K (ga K "BadAhead") (.ref (ga K "BadName")) false) = true := more _ (List.mem_of_getElem? (i := 5) rfl)
    exact of_decide_eq_true h
  have kf_kit_BadAhead_BadPlace : PySem.W.kitOne K (.ref (ga K "BadAhead")) (.ref (ga K "BadPlace")) = some false := by
    have h : (kitB1 K (ga K "BadAhead") (.ref (ga K "BadPlace")) false) = true := more _ (List.mem_of_getElem? (i := 6) rfl)
    exact of_decide_eq_true h
  have kf_kit_BadAhead_BadRule : PySem.W.kitOne K (.ref (ga K "BadAhead")) (.ref (ga K "BadRule")) = some false := by
    have h : (kitB1 K (ga K "BadAhead") (.ref (ga K "BadRule")) false) = true := more _ (List.mem_of_getElem? (i := 7) rfl)
    exact of_decide_eq_true h
  have kf_kit_BadAhead_BadWindow : PySem.W.kitOne K (.ref (ga K "BadAhead")) (.ref (ga K "BadWindow")) = some false := by
    have h : (kitB1 K (ga K "BadAhead") (.ref (ga K "BadWindow")) false) = true := more _ (List.mem_of_getElem? (i := 8) rfl)
    exact of_decide_eq_true h
  have kf_kit_BadAhead_NoAnswer : PySem.W.kitOne K (.ref (ga K "BadAhead")) (.ref (ga K "NoAnswer")) = some false := by
    have h : (kitB1 K (ga K "BadAhead") (.ref (ga K "NoAnswer")) false) = true := more _ (List.mem_of_getElem? (i := 9) rfl)
    exact of_decide_eq_true h
  have kf_kit_BadAhead_NoMove : PySem.W.kitOne K (.ref (ga K "BadAhead")) (.ref (ga K "NoMove")) = some false := by
    have h : (kitB1 K (ga K "BadAhead") (.ref (ga K "NoMove")) false) = true := more _ (List.mem_of_getElem? (i := 10) rfl)
    exact of_decide_eq_true h
  have kf_kit_BadAhead_Silent : PySem.W.kitOne K (.ref (ga K "BadAhead")) (.ref (ga K "Silent")) = some false := by
    have h : (kitB1 K (ga K "BadAhead") (.ref (ga K "Silent")) false) = true := more _ (List.mem_of_getElem? (i := 11) rfl)
    exact of_decide_eq_true h
  have kf_kit_BadAhead_SizeMismatch : PySem.W.kitOne K (.ref (ga K "BadAhead")) (.ref (ga K "SizeMismatch")) = some false := by
    have h : (kitB1 K (ga K "BadAhead") (.ref (ga K "SizeMismatch")) false) = true := more _ (List.mem_of_getElem? (i := 12) rfl)
    exact of_decide_eq_true h
  have kf_kit_BadAhead_TooMany : PySem.W.kitOne K (.ref (ga K "BadAhead")) (.ref (ga K "TooMany")) = some false := by
    have h : (kitB1 K (ga K "BadAhead") (.ref (ga K "TooMany")) false) = true := more _ (List.mem_of_getElem? (i := 13) rfl)
    exact of_decide_eq_true h
  have kf_kit_BadAhead_Twice : PySem.W.kitOne K (.ref (ga K "BadAhead")) (.ref (ga K "Twice")) = some false := by
    have h : (kitB1 K (ga K "BadAhead") (.ref (ga K "Twice")) false) = true := more _ (List.mem_of_getElem? (i := 14) rfl)
    exact of_decide_eq_true h
  have kf_kit_BadAhead_UnknownNote : PySem.W.kitOne K (.ref (ga K "BadAhead")) (.ref (ga K "UnknownNote")) = some false := by
    have h : (kitB1 K (ga K "BadAhead") (.ref (ga K "UnknownNote")) false) = true := more _ (List.mem_of_getElem? (i := 15) rfl)
    exact of_decide_eq_true h
  have kf_kit_BadAhead_UnknownPair : PySem.W.kitOne K (.ref (ga K "BadAhead")) (.ref (ga K "UnknownPair")) = some false := by
    have h : (kitB1 K (ga K "BadAhead") (.ref (ga K "UnknownPair")) false) = true := more _ (List.mem_of_getElem? (i := 16) rfl)
    exact of_decide_eq_true h
  have kf_kitT_BadAhead_ValueError : PySem.W.kitOne K (.ref (ga K "BadAhead")) (.type "ValueError") = some true := by
    have h : (kitB1 K (ga K "BadAhead") (.type "ValueError") true) = true := more _ (List.mem_of_getElem? (i := 17) rfl)
    exact of_decide_eq_true h
  have kf_ec_BadLine : Ec K (ga K "BadLine") := by
    have h : (ecB K (ga K "BadLine")) = true := more _ (List.mem_of_getElem? (i := 18) rfl)
    exact ecB_ok h
  have kf_nf_BadLine_number : PySem.W.findIn K (.ref (ga K "BadLine")) "number" = some none := by
    have h : (noatB K (ga K "BadLine") "number") = true := more _ (List.mem_of_getElem? (i := 19) rfl)
    exact He.eqO_ok h
  have kf_exm_BadLine_VoiceError : PySem.W.exmOne K (.ref (ga K "BadLine")) (.ref (ga K "VoiceError")) = some true := by
    have h : (exmB K (ga K "BadLine") (ga K "VoiceError") true) = true := more _ (List.mem_of_getElem? (i := 20) rfl)
    exact of_decide_eq_true h
  have kf_kit_BadLine_BadAhead : PySem.W.kitOne K (.ref (ga K "BadLine")) (.ref (ga K "BadAhead")) = some false := by
    have h : (kitB1 K (ga K "BadLine") (.ref (ga K "BadAhead")) false) = true := more _ (List.mem_of_getElem? (i := 21) rfl)
    exact of_decide_eq_true h
  have kf_kit_BadLine_BadLine : PySem.W.kitOne K (.ref (ga K "BadLine")) (.ref (ga K "BadLine")) = some true := by
    have h : (kitB1 K (ga K "BadLine") (.ref (ga K "BadLine")) true) = true := more _ (List.mem_of_getElem? (i := 22) rfl)
    exact of_decide_eq_true h
  have kf_kit_BadLine_BadName : PySem.W.kitOne K (.ref (ga K "BadLine")) (.ref (ga K "BadName")) = some false := by
    have h : (kitB1 K (ga K "BadLine") (.ref (ga K "BadName")) false) = true := more _ (List.mem_of_getElem? (i := 23) rfl)
    exact of_decide_eq_true h
  have kf_kit_BadLine_BadPlace : PySem.W.kitOne K (.ref (ga K "BadLine")) (.ref (ga K "BadPlace")) = some false := by
    have h : (kitB1 K (ga K "BadLine") (.ref (ga K "BadPlace")) false) = true := more _ (List.mem_of_getElem? (i := 24) rfl)
    exact of_decide_eq_true h
  have kf_kit_BadLine_BadRule : PySem.W.kitOne K (.ref (ga K "BadLine")) (.ref (ga K "BadRule")) = some false := by
    have h : (kitB1 K (ga K "BadLine") (.ref (ga K "BadRule")) false) = true := more _ (List.mem_of_getElem? (i := 25) rfl)
    exact of_decide_eq_true h
  have kf_kit_BadLine_BadWindow : PySem.W.kitOne K (.ref (ga K "BadLine")) (.ref (ga K "BadWindow")) = some false := by
    have h : (kitB1 K (ga K "BadLine") (.ref (ga K "BadWindow")) false) = true := more _ (List.mem_of_getElem? (i := 26) rfl)
    exact of_decide_eq_true h
  have kf_kit_BadLine_NoAnswer : PySem.W.kitOne K (.ref (ga K "BadLine")) (.ref (ga K "NoAnswer")) = some false := by
    have h : (kitB1 K (ga K "BadLine") (.ref (ga K "NoAnswer")) false) = true := more _ (List.mem_of_getElem? (i := 27) rfl)
    exact of_decide_eq_true h
  have kf_kit_BadLine_NoMove : PySem.W.kitOne K (.ref (ga K "BadLine")) (.ref (ga K "NoMove")) = some false := by
    have h : (kitB1 K (ga K "BadLine") (.ref (ga K "NoMove")) false) = true := more _ (List.mem_of_getElem? (i := 28) rfl)
    exact of_decide_eq_true h
  have kf_kit_BadLine_Silent : PySem.W.kitOne K (.ref (ga K "BadLine")) (.ref (ga K "Silent")) = some false := by
    have h : (kitB1 K (ga K "BadLine") (.ref (ga K "Silent")) false) = true := more _ (List.mem_of_getElem? (i := 29) rfl)
    exact of_decide_eq_true h
  have kf_kit_BadLine_SizeMismatch : PySem.W.kitOne K (.ref (ga K "BadLine")) (.ref (ga K "SizeMismatch")) = some false := by
    have h : (kitB1 K (ga K "BadLine") (.ref (ga K "SizeMismatch")) false) = true := more _ (List.mem_of_getElem? (i := 30) rfl)
    exact of_decide_eq_true h
  have kf_kit_BadLine_TooMany : PySem.W.kitOne K (.ref (ga K "BadLine")) (.ref (ga K "TooMany")) = some false := by
    have h : (kitB1 K (ga K "BadLine") (.ref (ga K "TooMany")) false) = true := more _ (List.mem_of_getElem? (i := 31) rfl)
    exact of_decide_eq_true h
  have kf_kit_BadLine_Twice : PySem.W.kitOne K (.ref (ga K "BadLine")) (.ref (ga K "Twice")) = some false := by
    have h : (kitB1 K (ga K "BadLine") (.ref (ga K "Twice")) false) = true := more _ (List.mem_of_getElem? (i := 32) rfl)
    exact of_decide_eq_true h
  have kf_kit_BadLine_UnknownNote : PySem.W.kitOne K (.ref (ga K "BadLine")) (.ref (ga K "UnknownNote")) = some false := by
    have h : (kitB1 K (ga K "BadLine") (.ref (ga K "UnknownNote")) false) = true := more _ (List.mem_of_getElem? (i := 33) rfl)
    exact of_decide_eq_true h
  have kf_kit_BadLine_UnknownPair : PySem.W.kitOne K (.ref (ga K "BadLine")) (.ref (ga K "UnknownPair")) = some false := by
    have h : (kitB1 K (ga K "BadLine") (.ref (ga K "UnknownPair")) false) = true := more _ (List.mem_of_getElem? (i := 34) rfl)
    exact of_decide_eq_true h
  have kf_kitT_BadLine_ValueError : PySem.W.kitOne K (.ref (ga K "BadLine")) (.type "ValueError") = some true := by
    have h : (kitB1 K (ga K "BadLine") (.type "ValueError") true) = true := more _ (List.mem_of_getElem? (i := 35) rfl)
    exact of_decide_eq_true h
  have kf_ec_BadName : Ec K (ga K "BadName") := by
    have h : (ecB K (ga K "BadName")) = true := more _ (List.mem_of_getElem? (i := 36) rfl)
    exact ecB_ok h
  have kf_nf_BadName_name : PySem.W.findIn K (.ref (ga K "BadName")) "name" = some none := by
    have h : (noatB K (ga K "BadName") "name") = true := more _ (List.mem_of_getElem? (i := 37) rfl)
    exact He.eqO_ok h
  have kf_exm_BadName_VoiceError : PySem.W.exmOne K (.ref (ga K "BadName")) (.ref (ga K "VoiceError")) = some true := by
    have h : (exmB K (ga K "BadName") (ga K "VoiceError") true) = true := more _ (List.mem_of_getElem? (i := 38) rfl)
    exact of_decide_eq_true h
  have kf_kit_BadName_BadAhead : PySem.W.kitOne K (.ref (ga K "BadName")) (.ref (ga K "BadAhead")) = some false := by
    have h : (kitB1 K (ga K "BadName") (.ref (ga K "BadAhead")) false) = true := more _ (List.mem_of_getElem? (i := 39) rfl)
    exact of_decide_eq_true h
  have kf_kit_BadName_BadLine : PySem.W.kitOne K (.ref (ga K "BadName")) (.ref (ga K "BadLine")) = some false := by
    have h : (kitB1 K (ga K "BadName") (.ref (ga K "BadLine")) false) = true := more _ (List.mem_of_getElem? (i := 40) rfl)
    exact of_decide_eq_true h
  have kf_kit_BadName_BadName : PySem.W.kitOne K (.ref (ga K "BadName")) (.ref (ga K "BadName")) = some true := by
    have h : (kitB1 K (ga K "BadName") (.ref (ga K "BadName")) true) = true := more _ (List.mem_of_getElem? (i := 41) rfl)
    exact of_decide_eq_true h
  have kf_kit_BadName_BadPlace : PySem.W.kitOne K (.ref (ga K "BadName")) (.ref (ga K "BadPlace")) = some false := by
    have h : (kitB1 K (ga K "BadName") (.ref (ga K "BadPlace")) false) = true := more _ (List.mem_of_getElem? (i := 42) rfl)
    exact of_decide_eq_true h
  have kf_kit_BadName_BadRule : PySem.W.kitOne K (.ref (ga K "BadName")) (.ref (ga K "BadRule")) = some false := by
    have h : (kitB1 K (ga K "BadName") (.ref (ga K "BadRule")) false) = true := more _ (List.mem_of_getElem? (i := 43) rfl)
    exact of_decide_eq_true h
  have kf_kit_BadName_BadWindow : PySem.W.kitOne K (.ref (ga K "BadName")) (.ref (ga K "BadWindow")) = some false := by
    have h : (kitB1 K (ga K "BadName") (.ref (ga K "BadWindow")) false) = true := more _ (List.mem_of_getElem? (i := 44) rfl)
    exact of_decide_eq_true h
  have kf_kit_BadName_NoAnswer : PySem.W.kitOne K (.ref (ga K "BadName")) (.ref (ga K "NoAnswer")) = some false := by
    have h : (kitB1 K (ga K "BadName") (.ref (ga K "NoAnswer")) false) = true := more _ (List.mem_of_getElem? (i := 45) rfl)
    exact of_decide_eq_true h
  have kf_kit_BadName_NoMove : PySem.W.kitOne K (.ref (ga K "BadName")) (.ref (ga K "NoMove")) = some false := by
    have h : (kitB1 K (ga K "BadName") (.ref (ga K "NoMove")) false) = true := more _ (List.mem_of_getElem? (i := 46) rfl)
    exact of_decide_eq_true h
  have kf_kit_BadName_Silent : PySem.W.kitOne K (.ref (ga K "BadName")) (.ref (ga K "Silent")) = some false := by
    have h : (kitB1 K (ga K "BadName") (.ref (ga K "Silent")) false) = true := more _ (List.mem_of_getElem? (i := 47) rfl)
    exact of_decide_eq_true h
  have kf_kit_BadName_SizeMismatch : PySem.W.kitOne K (.ref (ga K "BadName")) (.ref (ga K "SizeMismatch")) = some false := by
    have h : (kitB1 K (ga K "BadName") (.ref (ga K "SizeMismatch")) false) = true := more _ (List.mem_of_getElem? (i := 48) rfl)
    exact of_decide_eq_true h
  have kf_kit_BadName_TooMany : PySem.W.kitOne K (.ref (ga K "BadName")) (.ref (ga K "TooMany")) = some false := by
    have h : (kitB1 K (ga K "BadName") (.ref (ga K "TooMany")) false) = true := more _ (List.mem_of_getElem? (i := 49) rfl)
    exact of_decide_eq_true h
  have kf_kit_BadName_Twice : PySem.W.kitOne K (.ref (ga K "BadName")) (.ref (ga K "Twice")) = some false := by
    have h : (kitB1 K (ga K "BadName") (.ref (ga K "Twice")) false) = true := more _ (List.mem_of_getElem? (i := 50) rfl)
    exact of_decide_eq_true h
  have kf_kit_BadName_UnknownNote : PySem.W.kitOne K (.ref (ga K "BadName")) (.ref (ga K "UnknownNote")) = some false := by
    have h : (kitB1 K (ga K "BadName") (.ref (ga K "UnknownNote")) false) = true := more _ (List.mem_of_getElem? (i := 51) rfl)
    exact of_decide_eq_true h
  have kf_kit_BadName_UnknownPair : PySem.W.kitOne K (.ref (ga K "BadName")) (.ref (ga K "UnknownPair")) = some false := by
    have h : (kitB1 K (ga K "BadName") (.ref (ga K "UnknownPair")) false) = true := more _ (List.mem_of_getElem? (i := 52) rfl)
    exact of_decide_eq_true h
  have kf_kitT_BadName_ValueError : PySem.W.kitOne K (.ref (ga K "BadName")) (.type "ValueError") = some true := by
    have h : (kitB1 K (ga K "BadName") (.type "ValueError") true) = true := more _ (List.mem_of_getElem? (i := 53) rfl)
    exact of_decide_eq_true h
  have kf_ec_BadPlace : Ec K (ga K "BadPlace") := by
    have h : (ecB K (ga K "BadPlace")) = true := more _ (List.mem_of_getElem? (i := 54) rfl)
    exact ecB_ok h
  have kf_nf_BadPlace_place : PySem.W.findIn K (.ref (ga K "BadPlace")) "place" = some none := by
    have h : (noatB K (ga K "BadPlace") "place") = true := more _ (List.mem_of_getElem? (i := 55) rfl)
    exact He.eqO_ok h
  have kf_exm_BadPlace_VoiceError : PySem.W.exmOne K (.ref (ga K "BadPlace")) (.ref (ga K "VoiceError")) = some true := by
    have h : (exmB K (ga K "BadPlace") (ga K "VoiceError") true) = true := more _ (List.mem_of_getElem? (i := 56) rfl)
    exact of_decide_eq_true h
  have kf_kit_BadPlace_BadAhead : PySem.W.kitOne K (.ref (ga K "BadPlace")) (.ref (ga K "BadAhead")) = some false := by
    have h : (kitB1 K (ga K "BadPlace") (.ref (ga K "BadAhead")) false) = true := more _ (List.mem_of_getElem? (i := 57) rfl)
    exact of_decide_eq_true h
  have kf_kit_BadPlace_BadLine : PySem.W.kitOne K (.ref (ga K "BadPlace")) (.ref (ga K "BadLine")) = some false := by
    have h : (kitB1 K (ga K "BadPlace") (.ref (ga K "BadLine")) false) = true := more _ (List.mem_of_getElem? (i := 58) rfl)
    exact of_decide_eq_true h
  have kf_kit_BadPlace_BadName : PySem.W.kitOne K (.ref (ga K "BadPlace")) (.ref (ga K "BadName")) = some false := by
    have h : (kitB1 K (ga K "BadPlace") (.ref (ga K "BadName")) false) = true := more _ (List.mem_of_getElem? (i := 59) rfl)
    exact of_decide_eq_true h
  have kf_kit_BadPlace_BadPlace : PySem.W.kitOne K (.ref (ga K "BadPlace")) (.ref (ga K "BadPlace")) = some true := by
    have h : (kitB1 K (ga K "BadPlace") (.ref (ga K "BadPlace")) true) = true := more _ (List.mem_of_getElem? (i := 60) rfl)
    exact of_decide_eq_true h
  have kf_kit_BadPlace_BadRule : PySem.W.kitOne K (.ref (ga K "BadPlace")) (.ref (ga K "BadRule")) = some false := by
    have h : (kitB1 K (ga K "BadPlace") (.ref (ga K "BadRule")) false) = true := more _ (List.mem_of_getElem? (i := 61) rfl)
    exact of_decide_eq_true h
  have kf_kit_BadPlace_BadWindow : PySem.W.kitOne K (.ref (ga K "BadPlace")) (.ref (ga K "BadWindow")) = some false := by
    have h : (kitB1 K (ga K "BadPlace") (.ref (ga K "BadWindow")) false) = true := more _ (List.mem_of_getElem? (i := 62) rfl)
    exact of_decide_eq_true h
  have kf_kit_BadPlace_NoAnswer : PySem.W.kitOne K (.ref (ga K "BadPlace")) (.ref (ga K "NoAnswer")) = some false := by
    have h : (kitB1 K (ga K "BadPlace") (.ref (ga K "NoAnswer")) false) = true := more _ (List.mem_of_getElem? (i := 63) rfl)
    exact of_decide_eq_true h
  have kf_kit_BadPlace_NoMove : PySem.W.kitOne K (.ref (ga K "BadPlace")) (.ref (ga K "NoMove")) = some false := by
    have h : (kitB1 K (ga K "BadPlace") (.ref (ga K "NoMove")) false) = true := more _ (List.mem_of_getElem? (i := 64) rfl)
    exact of_decide_eq_true h
  have kf_kit_BadPlace_Silent : PySem.W.kitOne K (.ref (ga K "BadPlace")) (.ref (ga K "Silent")) = some false := by
    have h : (kitB1 K (ga K "BadPlace") (.ref (ga K "Silent")) false) = true := more _ (List.mem_of_getElem? (i := 65) rfl)
    exact of_decide_eq_true h
  have kf_kit_BadPlace_SizeMismatch : PySem.W.kitOne K (.ref (ga K "BadPlace")) (.ref (ga K "SizeMismatch")) = some false := by
    have h : (kitB1 K (ga K "BadPlace") (.ref (ga K "SizeMismatch")) false) = true := more _ (List.mem_of_getElem? (i := 66) rfl)
    exact of_decide_eq_true h
  have kf_kit_BadPlace_TooMany : PySem.W.kitOne K (.ref (ga K "BadPlace")) (.ref (ga K "TooMany")) = some false := by
    have h : (kitB1 K (ga K "BadPlace") (.ref (ga K "TooMany")) false) = true := more _ (List.mem_of_getElem? (i := 67) rfl)
    exact of_decide_eq_true h
  have kf_kit_BadPlace_Twice : PySem.W.kitOne K (.ref (ga K "BadPlace")) (.ref (ga K "Twice")) = some false := by
    have h : (kitB1 K (ga K "BadPlace") (.ref (ga K "Twice")) false) = true := more _ (List.mem_of_getElem? (i := 68) rfl)
    exact of_decide_eq_true h
  have kf_kit_BadPlace_UnknownNote : PySem.W.kitOne K (.ref (ga K "BadPlace")) (.ref (ga K "UnknownNote")) = some false := by
    have h : (kitB1 K (ga K "BadPlace") (.ref (ga K "UnknownNote")) false) = true := more _ (List.mem_of_getElem? (i := 69) rfl)
    exact of_decide_eq_true h
  have kf_kit_BadPlace_UnknownPair : PySem.W.kitOne K (.ref (ga K "BadPlace")) (.ref (ga K "UnknownPair")) = some false := by
    have h : (kitB1 K (ga K "BadPlace") (.ref (ga K "UnknownPair")) false) = true := more _ (List.mem_of_getElem? (i := 70) rfl)
    exact of_decide_eq_true h
  have kf_kitT_BadPlace_ValueError : PySem.W.kitOne K (.ref (ga K "BadPlace")) (.type "ValueError") = some true := by
    have h : (kitB1 K (ga K "BadPlace") (.type "ValueError") true) = true := more _ (List.mem_of_getElem? (i := 71) rfl)
    exact of_decide_eq_true h
  have kf_ec_BadRule : Ec K (ga K "BadRule") := by
    have h : (ecB K (ga K "BadRule")) = true := more _ (List.mem_of_getElem? (i := 72) rfl)
    exact ecB_ok h
  have kf_nf_BadRule_rule : PySem.W.findIn K (.ref (ga K "BadRule")) "rule" = some none := by
    have h : (noatB K (ga K "BadRule") "rule") = true := more _ (List.mem_of_getElem? (i := 73) rfl)
    exact He.eqO_ok h
  have kf_exm_BadRule_VoiceError : PySem.W.exmOne K (.ref (ga K "BadRule")) (.ref (ga K "VoiceError")) = some true := by
    have h : (exmB K (ga K "BadRule") (ga K "VoiceError") true) = true := more _ (List.mem_of_getElem? (i := 74) rfl)
    exact of_decide_eq_true h
  have kf_kit_BadRule_BadAhead : PySem.W.kitOne K (.ref (ga K "BadRule")) (.ref (ga K "BadAhead")) = some false := by
    have h : (kitB1 K (ga K "BadRule") (.ref (ga K "BadAhead")) false) = true := more _ (List.mem_of_getElem? (i := 75) rfl)
    exact of_decide_eq_true h
  have kf_kit_BadRule_BadLine : PySem.W.kitOne K (.ref (ga K "BadRule")) (.ref (ga K "BadLine")) = some false := by
    have h : (kitB1 K (ga K "BadRule") (.ref (ga K "BadLine")) false) = true := more _ (List.mem_of_getElem? (i := 76) rfl)
    exact of_decide_eq_true h
  have kf_kit_BadRule_BadName : PySem.W.kitOne K (.ref (ga K "BadRule")) (.ref (ga K "BadName")) = some false := by
    have h : (kitB1 K (ga K "BadRule") (.ref (ga K "BadName")) false) = true := more _ (List.mem_of_getElem? (i := 77) rfl)
    exact of_decide_eq_true h
  have kf_kit_BadRule_BadPlace : PySem.W.kitOne K (.ref (ga K "BadRule")) (.ref (ga K "BadPlace")) = some false := by
    have h : (kitB1 K (ga K "BadRule") (.ref (ga K "BadPlace")) false) = true := more _ (List.mem_of_getElem? (i := 78) rfl)
    exact of_decide_eq_true h
  have kf_kit_BadRule_BadRule : PySem.W.kitOne K (.ref (ga K "BadRule")) (.ref (ga K "BadRule")) = some true := by
    have h : (kitB1 K (ga K "BadRule") (.ref (ga K "BadRule")) true) = true := more _ (List.mem_of_getElem? (i := 79) rfl)
    exact of_decide_eq_true h
  have kf_kit_BadRule_BadWindow : PySem.W.kitOne K (.ref (ga K "BadRule")) (.ref (ga K "BadWindow")) = some false := by
    have h : (kitB1 K (ga K "BadRule") (.ref (ga K "BadWindow")) false) = true := more _ (List.mem_of_getElem? (i := 80) rfl)
    exact of_decide_eq_true h
  have kf_kit_BadRule_NoAnswer : PySem.W.kitOne K (.ref (ga K "BadRule")) (.ref (ga K "NoAnswer")) = some false := by
    have h : (kitB1 K (ga K "BadRule") (.ref (ga K "NoAnswer")) false) = true := more _ (List.mem_of_getElem? (i := 81) rfl)
    exact of_decide_eq_true h
  have kf_kit_BadRule_NoMove : PySem.W.kitOne K (.ref (ga K "BadRule")) (.ref (ga K "NoMove")) = some false := by
    have h : (kitB1 K (ga K "BadRule") (.ref (ga K "NoMove")) false) = true := more _ (List.mem_of_getElem? (i := 82) rfl)
    exact of_decide_eq_true h
  have kf_kit_BadRule_Silent : PySem.W.kitOne K (.ref (ga K "BadRule")) (.ref (ga K "Silent")) = some false := by
    have h : (kitB1 K (ga K "BadRule") (.ref (ga K "Silent")) false) = true := more _ (List.mem_of_getElem? (i := 83) rfl)
    exact of_decide_eq_true h
  have kf_kit_BadRule_SizeMismatch : PySem.W.kitOne K (.ref (ga K "BadRule")) (.ref (ga K "SizeMismatch")) = some false := by
    have h : (kitB1 K (ga K "BadRule") (.ref (ga K "SizeMismatch")) false) = true := more _ (List.mem_of_getElem? (i := 84) rfl)
    exact of_decide_eq_true h
  have kf_kit_BadRule_TooMany : PySem.W.kitOne K (.ref (ga K "BadRule")) (.ref (ga K "TooMany")) = some false := by
    have h : (kitB1 K (ga K "BadRule") (.ref (ga K "TooMany")) false) = true := more _ (List.mem_of_getElem? (i := 85) rfl)
    exact of_decide_eq_true h
  have kf_kit_BadRule_Twice : PySem.W.kitOne K (.ref (ga K "BadRule")) (.ref (ga K "Twice")) = some false := by
    have h : (kitB1 K (ga K "BadRule") (.ref (ga K "Twice")) false) = true := more _ (List.mem_of_getElem? (i := 86) rfl)
    exact of_decide_eq_true h
  have kf_kit_BadRule_UnknownNote : PySem.W.kitOne K (.ref (ga K "BadRule")) (.ref (ga K "UnknownNote")) = some false := by
    have h : (kitB1 K (ga K "BadRule") (.ref (ga K "UnknownNote")) false) = true := more _ (List.mem_of_getElem? (i := 87) rfl)
    exact of_decide_eq_true h
  have kf_kit_BadRule_UnknownPair : PySem.W.kitOne K (.ref (ga K "BadRule")) (.ref (ga K "UnknownPair")) = some false := by
    have h : (kitB1 K (ga K "BadRule") (.ref (ga K "UnknownPair")) false) = true := more _ (List.mem_of_getElem? (i := 88) rfl)
    exact of_decide_eq_true h
  have kf_kitT_BadRule_ValueError : PySem.W.kitOne K (.ref (ga K "BadRule")) (.type "ValueError") = some true := by
    have h : (kitB1 K (ga K "BadRule") (.type "ValueError") true) = true := more _ (List.mem_of_getElem? (i := 89) rfl)
    exact of_decide_eq_true h
  have kf_ec_BadWindow : Ec K (ga K "BadWindow") := by
    have h : (ecB K (ga K "BadWindow")) = true := more _ (List.mem_of_getElem? (i := 90) rfl)
    exact ecB_ok h
  have kf_exm_BadWindow_VoiceError : PySem.W.exmOne K (.ref (ga K "BadWindow")) (.ref (ga K "VoiceError")) = some true := by
    have h : (exmB K (ga K "BadWindow") (ga K "VoiceError") true) = true := more _ (List.mem_of_getElem? (i := 91) rfl)
    exact of_decide_eq_true h
  have kf_kit_BadWindow_BadAhead : PySem.W.kitOne K (.ref (ga K "BadWindow")) (.ref (ga K "BadAhead")) = some false := by
    have h : (kitB1 K (ga K "BadWindow") (.ref (ga K "BadAhead")) false) = true := more _ (List.mem_of_getElem? (i := 92) rfl)
    exact of_decide_eq_true h
  have kf_kit_BadWindow_BadLine : PySem.W.kitOne K (.ref (ga K "BadWindow")) (.ref (ga K "BadLine")) = some false := by
    have h : (kitB1 K (ga K "BadWindow") (.ref (ga K "BadLine")) false) = true := more _ (List.mem_of_getElem? (i := 93) rfl)
    exact of_decide_eq_true h
  have kf_kit_BadWindow_BadName : PySem.W.kitOne K (.ref (ga K "BadWindow")) (.ref (ga K "BadName")) = some false := by
    have h : (kitB1 K (ga K "BadWindow") (.ref (ga K "BadName")) false) = true := more _ (List.mem_of_getElem? (i := 94) rfl)
    exact of_decide_eq_true h
  have kf_kit_BadWindow_BadPlace : PySem.W.kitOne K (.ref (ga K "BadWindow")) (.ref (ga K "BadPlace")) = some false := by
    have h : (kitB1 K (ga K "BadWindow") (.ref (ga K "BadPlace")) false) = true := more _ (List.mem_of_getElem? (i := 95) rfl)
    exact of_decide_eq_true h
  have kf_kit_BadWindow_BadRule : PySem.W.kitOne K (.ref (ga K "BadWindow")) (.ref (ga K "BadRule")) = some false := by
    have h : (kitB1 K (ga K "BadWindow") (.ref (ga K "BadRule")) false) = true := more _ (List.mem_of_getElem? (i := 96) rfl)
    exact of_decide_eq_true h
  have kf_kit_BadWindow_BadWindow : PySem.W.kitOne K (.ref (ga K "BadWindow")) (.ref (ga K "BadWindow")) = some true := by
    have h : (kitB1 K (ga K "BadWindow") (.ref (ga K "BadWindow")) true) = true := more _ (List.mem_of_getElem? (i := 97) rfl)
    exact of_decide_eq_true h
  have kf_kit_BadWindow_NoAnswer : PySem.W.kitOne K (.ref (ga K "BadWindow")) (.ref (ga K "NoAnswer")) = some false := by
    have h : (kitB1 K (ga K "BadWindow") (.ref (ga K "NoAnswer")) false) = true := more _ (List.mem_of_getElem? (i := 98) rfl)
    exact of_decide_eq_true h
  have kf_kit_BadWindow_NoMove : PySem.W.kitOne K (.ref (ga K "BadWindow")) (.ref (ga K "NoMove")) = some false := by
    have h : (kitB1 K (ga K "BadWindow") (.ref (ga K "NoMove")) false) = true := more _ (List.mem_of_getElem? (i := 99) rfl)
    exact of_decide_eq_true h
  have kf_kit_BadWindow_Silent : PySem.W.kitOne K (.ref (ga K "BadWindow")) (.ref (ga K "Silent")) = some false := by
    have h : (kitB1 K (ga K "BadWindow") (.ref (ga K "Silent")) false) = true := more _ (List.mem_of_getElem? (i := 100) rfl)
    exact of_decide_eq_true h
  have kf_kit_BadWindow_SizeMismatch : PySem.W.kitOne K (.ref (ga K "BadWindow")) (.ref (ga K "SizeMismatch")) = some false := by
    have h : (kitB1 K (ga K "BadWindow") (.ref (ga K "SizeMismatch")) false) = true := more _ (List.mem_of_getElem? (i := 101) rfl)
    exact of_decide_eq_true h
  have kf_kit_BadWindow_TooMany : PySem.W.kitOne K (.ref (ga K "BadWindow")) (.ref (ga K "TooMany")) = some false := by
    have h : (kitB1 K (ga K "BadWindow") (.ref (ga K "TooMany")) false) = true := more _ (List.mem_of_getElem? (i := 102) rfl)
    exact of_decide_eq_true h
  have kf_kit_BadWindow_Twice : PySem.W.kitOne K (.ref (ga K "BadWindow")) (.ref (ga K "Twice")) = some false := by
    have h : (kitB1 K (ga K "BadWindow") (.ref (ga K "Twice")) false) = true := more _ (List.mem_of_getElem? (i := 103) rfl)
    exact of_decide_eq_true h
  have kf_kit_BadWindow_UnknownNote : PySem.W.kitOne K (.ref (ga K "BadWindow")) (.ref (ga K "UnknownNote")) = some false := by
    have h : (kitB1 K (ga K "BadWindow") (.ref (ga K "UnknownNote")) false) = true := more _ (List.mem_of_getElem? (i := 104) rfl)
    exact of_decide_eq_true h
  have kf_kit_BadWindow_UnknownPair : PySem.W.kitOne K (.ref (ga K "BadWindow")) (.ref (ga K "UnknownPair")) = some false := by
    have h : (kitB1 K (ga K "BadWindow") (.ref (ga K "UnknownPair")) false) = true := more _ (List.mem_of_getElem? (i := 105) rfl)
    exact of_decide_eq_true h
  have kf_kitT_BadWindow_ValueError : PySem.W.kitOne K (.ref (ga K "BadWindow")) (.type "ValueError") = some true := by
    have h : (kitB1 K (ga K "BadWindow") (.type "ValueError") true) = true := more _ (List.mem_of_getElem? (i := 106) rfl)
    exact of_decide_eq_true h
  have kf_ec_NoAnswer : Ec K (ga K "NoAnswer") := by
    have h : (ecB K (ga K "NoAnswer")) = true := more _ (List.mem_of_getElem? (i := 107) rfl)
    exact ecB_ok h
  have kf_exm_NoAnswer_VoiceError : PySem.W.exmOne K (.ref (ga K "NoAnswer")) (.ref (ga K "VoiceError")) = some true := by
    have h : (exmB K (ga K "NoAnswer") (ga K "VoiceError") true) = true := more _ (List.mem_of_getElem? (i := 108) rfl)
    exact of_decide_eq_true h
  have kf_kit_NoAnswer_BadAhead : PySem.W.kitOne K (.ref (ga K "NoAnswer")) (.ref (ga K "BadAhead")) = some false := by
    have h : (kitB1 K (ga K "NoAnswer") (.ref (ga K "BadAhead")) false) = true := more _ (List.mem_of_getElem? (i := 109) rfl)
    exact of_decide_eq_true h
  have kf_kit_NoAnswer_BadLine : PySem.W.kitOne K (.ref (ga K "NoAnswer")) (.ref (ga K "BadLine")) = some false := by
    have h : (kitB1 K (ga K "NoAnswer") (.ref (ga K "BadLine")) false) = true := more _ (List.mem_of_getElem? (i := 110) rfl)
    exact of_decide_eq_true h
  have kf_kit_NoAnswer_BadName : PySem.W.kitOne K (.ref (ga K "NoAnswer")) (.ref (ga K "BadName")) = some false := by
    have h : (kitB1 K (ga K "NoAnswer") (.ref (ga K "BadName")) false) = true := more _ (List.mem_of_getElem? (i := 111) rfl)
    exact of_decide_eq_true h
  have kf_kit_NoAnswer_BadPlace : PySem.W.kitOne K (.ref (ga K "NoAnswer")) (.ref (ga K "BadPlace")) = some false := by
    have h : (kitB1 K (ga K "NoAnswer") (.ref (ga K "BadPlace")) false) = true := more _ (List.mem_of_getElem? (i := 112) rfl)
    exact of_decide_eq_true h
  have kf_kit_NoAnswer_BadRule : PySem.W.kitOne K (.ref (ga K "NoAnswer")) (.ref (ga K "BadRule")) = some false := by
    have h : (kitB1 K (ga K "NoAnswer") (.ref (ga K "BadRule")) false) = true := more _ (List.mem_of_getElem? (i := 113) rfl)
    exact of_decide_eq_true h
  have kf_kit_NoAnswer_BadWindow : PySem.W.kitOne K (.ref (ga K "NoAnswer")) (.ref (ga K "BadWindow")) = some false := by
    have h : (kitB1 K (ga K "NoAnswer") (.ref (ga K "BadWindow")) false) = true := more _ (List.mem_of_getElem? (i := 114) rfl)
    exact of_decide_eq_true h
  have kf_kit_NoAnswer_NoAnswer : PySem.W.kitOne K (.ref (ga K "NoAnswer")) (.ref (ga K "NoAnswer")) = some true := by
    have h : (kitB1 K (ga K "NoAnswer") (.ref (ga K "NoAnswer")) true) = true := more _ (List.mem_of_getElem? (i := 115) rfl)
    exact of_decide_eq_true h
  have kf_kit_NoAnswer_NoMove : PySem.W.kitOne K (.ref (ga K "NoAnswer")) (.ref (ga K "NoMove")) = some false := by
    have h : (kitB1 K (ga K "NoAnswer") (.ref (ga K "NoMove")) false) = true := more _ (List.mem_of_getElem? (i := 116) rfl)
    exact of_decide_eq_true h
  have kf_kit_NoAnswer_Silent : PySem.W.kitOne K (.ref (ga K "NoAnswer")) (.ref (ga K "Silent")) = some false := by
    have h : (kitB1 K (ga K "NoAnswer") (.ref (ga K "Silent")) false) = true := more _ (List.mem_of_getElem? (i := 117) rfl)
    exact of_decide_eq_true h
  have kf_kit_NoAnswer_SizeMismatch : PySem.W.kitOne K (.ref (ga K "NoAnswer")) (.ref (ga K "SizeMismatch")) = some false := by
    have h : (kitB1 K (ga K "NoAnswer") (.ref (ga K "SizeMismatch")) false) = true := more _ (List.mem_of_getElem? (i := 118) rfl)
    exact of_decide_eq_true h
  have kf_kit_NoAnswer_TooMany : PySem.W.kitOne K (.ref (ga K "NoAnswer")) (.ref (ga K "TooMany")) = some false := by
    have h : (kitB1 K (ga K "NoAnswer") (.ref (ga K "TooMany")) false) = true := more _ (List.mem_of_getElem? (i := 119) rfl)
    exact of_decide_eq_true h
  have kf_kit_NoAnswer_Twice : PySem.W.kitOne K (.ref (ga K "NoAnswer")) (.ref (ga K "Twice")) = some false := by
    have h : (kitB1 K (ga K "NoAnswer") (.ref (ga K "Twice")) false) = true := more _ (List.mem_of_getElem? (i := 120) rfl)
    exact of_decide_eq_true h
  have kf_kit_NoAnswer_UnknownNote : PySem.W.kitOne K (.ref (ga K "NoAnswer")) (.ref (ga K "UnknownNote")) = some false := by
    have h : (kitB1 K (ga K "NoAnswer") (.ref (ga K "UnknownNote")) false) = true := more _ (List.mem_of_getElem? (i := 121) rfl)
    exact of_decide_eq_true h
  have kf_kit_NoAnswer_UnknownPair : PySem.W.kitOne K (.ref (ga K "NoAnswer")) (.ref (ga K "UnknownPair")) = some false := by
    have h : (kitB1 K (ga K "NoAnswer") (.ref (ga K "UnknownPair")) false) = true := more _ (List.mem_of_getElem? (i := 122) rfl)
    exact of_decide_eq_true h
  have kf_kitT_NoAnswer_ValueError : PySem.W.kitOne K (.ref (ga K "NoAnswer")) (.type "ValueError") = some true := by
    have h : (kitB1 K (ga K "NoAnswer") (.type "ValueError") true) = true := more _ (List.mem_of_getElem? (i := 123) rfl)
    exact of_decide_eq_true h
  have kf_ec_NoMove : Ec K (ga K "NoMove") := by
    have h : (ecB K (ga K "NoMove")) = true := more _ (List.mem_of_getElem? (i := 124) rfl)
    exact ecB_ok h
  have kf_exm_NoMove_VoiceError : PySem.W.exmOne K (.ref (ga K "NoMove")) (.ref (ga K "VoiceError")) = some true := by
    have h : (exmB K (ga K "NoMove") (ga K "VoiceError") true) = true := more _ (List.mem_of_getElem? (i := 125) rfl)
    exact of_decide_eq_true h
  have kf_kit_NoMove_BadAhead : PySem.W.kitOne K (.ref (ga K "NoMove")) (.ref (ga K "BadAhead")) = some false := by
    have h : (kitB1 K (ga K "NoMove") (.ref (ga K "BadAhead")) false) = true := more _ (List.mem_of_getElem? (i := 126) rfl)
    exact of_decide_eq_true h
  have kf_kit_NoMove_BadLine : PySem.W.kitOne K (.ref (ga K "NoMove")) (.ref (ga K "BadLine")) = some false := by
    have h : (kitB1 K (ga K "NoMove") (.ref (ga K "BadLine")) false) = true := more _ (List.mem_of_getElem? (i := 127) rfl)
    exact of_decide_eq_true h
  have kf_kit_NoMove_BadName : PySem.W.kitOne K (.ref (ga K "NoMove")) (.ref (ga K "BadName")) = some false := by
    have h : (kitB1 K (ga K "NoMove") (.ref (ga K "BadName")) false) = true := more _ (List.mem_of_getElem? (i := 128) rfl)
    exact of_decide_eq_true h
  have kf_kit_NoMove_BadPlace : PySem.W.kitOne K (.ref (ga K "NoMove")) (.ref (ga K "BadPlace")) = some false := by
    have h : (kitB1 K (ga K "NoMove") (.ref (ga K "BadPlace")) false) = true := more _ (List.mem_of_getElem? (i := 129) rfl)
    exact of_decide_eq_true h
  have kf_kit_NoMove_BadRule : PySem.W.kitOne K (.ref (ga K "NoMove")) (.ref (ga K "BadRule")) = some false := by
    have h : (kitB1 K (ga K "NoMove") (.ref (ga K "BadRule")) false) = true := more _ (List.mem_of_getElem? (i := 130) rfl)
    exact of_decide_eq_true h
  have kf_kit_NoMove_BadWindow : PySem.W.kitOne K (.ref (ga K "NoMove")) (.ref (ga K "BadWindow")) = some false := by
    have h : (kitB1 K (ga K "NoMove") (.ref (ga K "BadWindow")) false) = true := more _ (List.mem_of_getElem? (i := 131) rfl)
    exact of_decide_eq_true h
  have kf_kit_NoMove_NoAnswer : PySem.W.kitOne K (.ref (ga K "NoMove")) (.ref (ga K "NoAnswer")) = some false := by
    have h : (kitB1 K (ga K "NoMove") (.ref (ga K "NoAnswer")) false) = true := more _ (List.mem_of_getElem? (i := 132) rfl)
    exact of_decide_eq_true h
  have kf_kit_NoMove_NoMove : PySem.W.kitOne K (.ref (ga K "NoMove")) (.ref (ga K "NoMove")) = some true := by
    have h : (kitB1 K (ga K "NoMove") (.ref (ga K "NoMove")) true) = true := more _ (List.mem_of_getElem? (i := 133) rfl)
    exact of_decide_eq_true h
  have kf_kit_NoMove_Silent : PySem.W.kitOne K (.ref (ga K "NoMove")) (.ref (ga K "Silent")) = some false := by
    have h : (kitB1 K (ga K "NoMove") (.ref (ga K "Silent")) false) = true := more _ (List.mem_of_getElem? (i := 134) rfl)
    exact of_decide_eq_true h
  have kf_kit_NoMove_SizeMismatch : PySem.W.kitOne K (.ref (ga K "NoMove")) (.ref (ga K "SizeMismatch")) = some false := by
    have h : (kitB1 K (ga K "NoMove") (.ref (ga K "SizeMismatch")) false) = true := more _ (List.mem_of_getElem? (i := 135) rfl)
    exact of_decide_eq_true h
  have kf_kit_NoMove_TooMany : PySem.W.kitOne K (.ref (ga K "NoMove")) (.ref (ga K "TooMany")) = some false := by
    have h : (kitB1 K (ga K "NoMove") (.ref (ga K "TooMany")) false) = true := more _ (List.mem_of_getElem? (i := 136) rfl)
    exact of_decide_eq_true h
  have kf_kit_NoMove_Twice : PySem.W.kitOne K (.ref (ga K "NoMove")) (.ref (ga K "Twice")) = some false := by
    have h : (kitB1 K (ga K "NoMove") (.ref (ga K "Twice")) false) = true := more _ (List.mem_of_getElem? (i := 137) rfl)
    exact of_decide_eq_true h
  have kf_kit_NoMove_UnknownNote : PySem.W.kitOne K (.ref (ga K "NoMove")) (.ref (ga K "UnknownNote")) = some false := by
    have h : (kitB1 K (ga K "NoMove") (.ref (ga K "UnknownNote")) false) = true := more _ (List.mem_of_getElem? (i := 138) rfl)
    exact of_decide_eq_true h
  have kf_kit_NoMove_UnknownPair : PySem.W.kitOne K (.ref (ga K "NoMove")) (.ref (ga K "UnknownPair")) = some false := by
    have h : (kitB1 K (ga K "NoMove") (.ref (ga K "UnknownPair")) false) = true := more _ (List.mem_of_getElem? (i := 139) rfl)
    exact of_decide_eq_true h
  have kf_kitT_NoMove_ValueError : PySem.W.kitOne K (.ref (ga K "NoMove")) (.type "ValueError") = some true := by
    have h : (kitB1 K (ga K "NoMove") (.type "ValueError") true) = true := more _ (List.mem_of_getElem? (i := 140) rfl)
    exact of_decide_eq_true h
  have kf_ec_Silent : Ec K (ga K "Silent") := by
    have h : (ecB K (ga K "Silent")) = true := more _ (List.mem_of_getElem? (i := 141) rfl)
    exact ecB_ok h
  have kf_nf_Silent_voice : PySem.W.findIn K (.ref (ga K "Silent")) "voice" = some none := by
    have h : (noatB K (ga K "Silent") "voice") = true := more _ (List.mem_of_getElem? (i := 142) rfl)
    exact He.eqO_ok h
  have kf_exm_Silent_VoiceError : PySem.W.exmOne K (.ref (ga K "Silent")) (.ref (ga K "VoiceError")) = some true := by
    have h : (exmB K (ga K "Silent") (ga K "VoiceError") true) = true := more _ (List.mem_of_getElem? (i := 143) rfl)
    exact of_decide_eq_true h
  have kf_kit_Silent_BadAhead : PySem.W.kitOne K (.ref (ga K "Silent")) (.ref (ga K "BadAhead")) = some false := by
    have h : (kitB1 K (ga K "Silent") (.ref (ga K "BadAhead")) false) = true := more _ (List.mem_of_getElem? (i := 144) rfl)
    exact of_decide_eq_true h
  have kf_kit_Silent_BadLine : PySem.W.kitOne K (.ref (ga K "Silent")) (.ref (ga K "BadLine")) = some false := by
    have h : (kitB1 K (ga K "Silent") (.ref (ga K "BadLine")) false) = true := more _ (List.mem_of_getElem? (i := 145) rfl)
    exact of_decide_eq_true h
  have kf_kit_Silent_BadName : PySem.W.kitOne K (.ref (ga K "Silent")) (.ref (ga K "BadName")) = some false := by
    have h : (kitB1 K (ga K "Silent") (.ref (ga K "BadName")) false) = true := more _ (List.mem_of_getElem? (i := 146) rfl)
    exact of_decide_eq_true h
  have kf_kit_Silent_BadPlace : PySem.W.kitOne K (.ref (ga K "Silent")) (.ref (ga K "BadPlace")) = some false := by
    have h : (kitB1 K (ga K "Silent") (.ref (ga K "BadPlace")) false) = true := more _ (List.mem_of_getElem? (i := 147) rfl)
    exact of_decide_eq_true h
  have kf_kit_Silent_BadRule : PySem.W.kitOne K (.ref (ga K "Silent")) (.ref (ga K "BadRule")) = some false := by
    have h : (kitB1 K (ga K "Silent") (.ref (ga K "BadRule")) false) = true := more _ (List.mem_of_getElem? (i := 148) rfl)
    exact of_decide_eq_true h
  have kf_kit_Silent_BadWindow : PySem.W.kitOne K (.ref (ga K "Silent")) (.ref (ga K "BadWindow")) = some false := by
    have h : (kitB1 K (ga K "Silent") (.ref (ga K "BadWindow")) false) = true := more _ (List.mem_of_getElem? (i := 149) rfl)
    exact of_decide_eq_true h
  have kf_kit_Silent_NoAnswer : PySem.W.kitOne K (.ref (ga K "Silent")) (.ref (ga K "NoAnswer")) = some false := by
    have h : (kitB1 K (ga K "Silent") (.ref (ga K "NoAnswer")) false) = true := more _ (List.mem_of_getElem? (i := 150) rfl)
    exact of_decide_eq_true h
  have kf_kit_Silent_NoMove : PySem.W.kitOne K (.ref (ga K "Silent")) (.ref (ga K "NoMove")) = some false := by
    have h : (kitB1 K (ga K "Silent") (.ref (ga K "NoMove")) false) = true := more _ (List.mem_of_getElem? (i := 151) rfl)
    exact of_decide_eq_true h
  have kf_kit_Silent_Silent : PySem.W.kitOne K (.ref (ga K "Silent")) (.ref (ga K "Silent")) = some true := by
    have h : (kitB1 K (ga K "Silent") (.ref (ga K "Silent")) true) = true := more _ (List.mem_of_getElem? (i := 152) rfl)
    exact of_decide_eq_true h
  have kf_kit_Silent_SizeMismatch : PySem.W.kitOne K (.ref (ga K "Silent")) (.ref (ga K "SizeMismatch")) = some false := by
    have h : (kitB1 K (ga K "Silent") (.ref (ga K "SizeMismatch")) false) = true := more _ (List.mem_of_getElem? (i := 153) rfl)
    exact of_decide_eq_true h
  have kf_kit_Silent_TooMany : PySem.W.kitOne K (.ref (ga K "Silent")) (.ref (ga K "TooMany")) = some false := by
    have h : (kitB1 K (ga K "Silent") (.ref (ga K "TooMany")) false) = true := more _ (List.mem_of_getElem? (i := 154) rfl)
    exact of_decide_eq_true h
  have kf_kit_Silent_Twice : PySem.W.kitOne K (.ref (ga K "Silent")) (.ref (ga K "Twice")) = some false := by
    have h : (kitB1 K (ga K "Silent") (.ref (ga K "Twice")) false) = true := more _ (List.mem_of_getElem? (i := 155) rfl)
    exact of_decide_eq_true h
  have kf_kit_Silent_UnknownNote : PySem.W.kitOne K (.ref (ga K "Silent")) (.ref (ga K "UnknownNote")) = some false := by
    have h : (kitB1 K (ga K "Silent") (.ref (ga K "UnknownNote")) false) = true := more _ (List.mem_of_getElem? (i := 156) rfl)
    exact of_decide_eq_true h
  have kf_kit_Silent_UnknownPair : PySem.W.kitOne K (.ref (ga K "Silent")) (.ref (ga K "UnknownPair")) = some false := by
    have h : (kitB1 K (ga K "Silent") (.ref (ga K "UnknownPair")) false) = true := more _ (List.mem_of_getElem? (i := 157) rfl)
    exact of_decide_eq_true h
  have kf_kitT_Silent_ValueError : PySem.W.kitOne K (.ref (ga K "Silent")) (.type "ValueError") = some true := by
    have h : (kitB1 K (ga K "Silent") (.type "ValueError") true) = true := more _ (List.mem_of_getElem? (i := 158) rfl)
    exact of_decide_eq_true h
  have kf_ec_SizeMismatch : Ec K (ga K "SizeMismatch") := by
    have h : (ecB K (ga K "SizeMismatch")) = true := more _ (List.mem_of_getElem? (i := 159) rfl)
    exact ecB_ok h
  have kf_exm_SizeMismatch_VoiceError : PySem.W.exmOne K (.ref (ga K "SizeMismatch")) (.ref (ga K "VoiceError")) = some true := by
    have h : (exmB K (ga K "SizeMismatch") (ga K "VoiceError") true) = true := more _ (List.mem_of_getElem? (i := 160) rfl)
    exact of_decide_eq_true h
  have kf_kit_SizeMismatch_BadAhead : PySem.W.kitOne K (.ref (ga K "SizeMismatch")) (.ref (ga K "BadAhead")) = some false := by
    have h : (kitB1 K (ga K "SizeMismatch") (.ref (ga K "BadAhead")) false) = true := more _ (List.mem_of_getElem? (i := 161) rfl)
    exact of_decide_eq_true h
  have kf_kit_SizeMismatch_BadLine : PySem.W.kitOne K (.ref (ga K "SizeMismatch")) (.ref (ga K "BadLine")) = some false := by
    have h : (kitB1 K (ga K "SizeMismatch") (.ref (ga K "BadLine")) false) = true := more _ (List.mem_of_getElem? (i := 162) rfl)
    exact of_decide_eq_true h
  have kf_kit_SizeMismatch_BadName : PySem.W.kitOne K (.ref (ga K "SizeMismatch")) (.ref (ga K "BadName")) = some false := by
    have h : (kitB1 K (ga K "SizeMismatch") (.ref (ga K "BadName")) false) = true := more _ (List.mem_of_getElem? (i := 163) rfl)
    exact of_decide_eq_true h
  have kf_kit_SizeMismatch_BadPlace : PySem.W.kitOne K (.ref (ga K "SizeMismatch")) (.ref (ga K "BadPlace")) = some false := by
    have h : (kitB1 K (ga K "SizeMismatch") (.ref (ga K "BadPlace")) false) = true := more _ (List.mem_of_getElem? (i := 164) rfl)
    exact of_decide_eq_true h
  have kf_kit_SizeMismatch_BadRule : PySem.W.kitOne K (.ref (ga K "SizeMismatch")) (.ref (ga K "BadRule")) = some false := by
    have h : (kitB1 K (ga K "SizeMismatch") (.ref (ga K "BadRule")) false) = true := more _ (List.mem_of_getElem? (i := 165) rfl)
    exact of_decide_eq_true h
  have kf_kit_SizeMismatch_BadWindow : PySem.W.kitOne K (.ref (ga K "SizeMismatch")) (.ref (ga K "BadWindow")) = some false := by
    have h : (kitB1 K (ga K "SizeMismatch") (.ref (ga K "BadWindow")) false) = true := more _ (List.mem_of_getElem? (i := 166) rfl)
    exact of_decide_eq_true h
  have kf_kit_SizeMismatch_NoAnswer : PySem.W.kitOne K (.ref (ga K "SizeMismatch")) (.ref (ga K "NoAnswer")) = some false := by
    have h : (kitB1 K (ga K "SizeMismatch") (.ref (ga K "NoAnswer")) false) = true := more _ (List.mem_of_getElem? (i := 167) rfl)
    exact of_decide_eq_true h
  have kf_kit_SizeMismatch_NoMove : PySem.W.kitOne K (.ref (ga K "SizeMismatch")) (.ref (ga K "NoMove")) = some false := by
    have h : (kitB1 K (ga K "SizeMismatch") (.ref (ga K "NoMove")) false) = true := more _ (List.mem_of_getElem? (i := 168) rfl)
    exact of_decide_eq_true h
  have kf_kit_SizeMismatch_Silent : PySem.W.kitOne K (.ref (ga K "SizeMismatch")) (.ref (ga K "Silent")) = some false := by
    have h : (kitB1 K (ga K "SizeMismatch") (.ref (ga K "Silent")) false) = true := more _ (List.mem_of_getElem? (i := 169) rfl)
    exact of_decide_eq_true h
  have kf_kit_SizeMismatch_SizeMismatch : PySem.W.kitOne K (.ref (ga K "SizeMismatch")) (.ref (ga K "SizeMismatch")) = some true := by
    have h : (kitB1 K (ga K "SizeMismatch") (.ref (ga K "SizeMismatch")) true) = true := more _ (List.mem_of_getElem? (i := 170) rfl)
    exact of_decide_eq_true h
  have kf_kit_SizeMismatch_TooMany : PySem.W.kitOne K (.ref (ga K "SizeMismatch")) (.ref (ga K "TooMany")) = some false := by
    have h : (kitB1 K (ga K "SizeMismatch") (.ref (ga K "TooMany")) false) = true := more _ (List.mem_of_getElem? (i := 171) rfl)
    exact of_decide_eq_true h
  have kf_kit_SizeMismatch_Twice : PySem.W.kitOne K (.ref (ga K "SizeMismatch")) (.ref (ga K "Twice")) = some false := by
    have h : (kitB1 K (ga K "SizeMismatch") (.ref (ga K "Twice")) false) = true := more _ (List.mem_of_getElem? (i := 172) rfl)
    exact of_decide_eq_true h
  have kf_kit_SizeMismatch_UnknownNote : PySem.W.kitOne K (.ref (ga K "SizeMismatch")) (.ref (ga K "UnknownNote")) = some false := by
    have h : (kitB1 K (ga K "SizeMismatch") (.ref (ga K "UnknownNote")) false) = true := more _ (List.mem_of_getElem? (i := 173) rfl)
    exact of_decide_eq_true h
  have kf_kit_SizeMismatch_UnknownPair : PySem.W.kitOne K (.ref (ga K "SizeMismatch")) (.ref (ga K "UnknownPair")) = some false := by
    have h : (kitB1 K (ga K "SizeMismatch") (.ref (ga K "UnknownPair")) false) = true := more _ (List.mem_of_getElem? (i := 174) rfl)
    exact of_decide_eq_true h
  have kf_kitT_SizeMismatch_ValueError : PySem.W.kitOne K (.ref (ga K "SizeMismatch")) (.type "ValueError") = some true := by
    have h : (kitB1 K (ga K "SizeMismatch") (.type "ValueError") true) = true := more _ (List.mem_of_getElem? (i := 175) rfl)
    exact of_decide_eq_true h
  have kf_ec_TooMany : Ec K (ga K "TooMany") := by
    have h : (ecB K (ga K "TooMany")) = true := more _ (List.mem_of_getElem? (i := 176) rfl)
    exact ecB_ok h
  have kf_exm_TooMany_VoiceError : PySem.W.exmOne K (.ref (ga K "TooMany")) (.ref (ga K "VoiceError")) = some true := by
    have h : (exmB K (ga K "TooMany") (ga K "VoiceError") true) = true := more _ (List.mem_of_getElem? (i := 177) rfl)
    exact of_decide_eq_true h
  have kf_kit_TooMany_BadAhead : PySem.W.kitOne K (.ref (ga K "TooMany")) (.ref (ga K "BadAhead")) = some false := by
    have h : (kitB1 K (ga K "TooMany") (.ref (ga K "BadAhead")) false) = true := more _ (List.mem_of_getElem? (i := 178) rfl)
    exact of_decide_eq_true h
  have kf_kit_TooMany_BadLine : PySem.W.kitOne K (.ref (ga K "TooMany")) (.ref (ga K "BadLine")) = some false := by
    have h : (kitB1 K (ga K "TooMany") (.ref (ga K "BadLine")) false) = true := more _ (List.mem_of_getElem? (i := 179) rfl)
    exact of_decide_eq_true h
  have kf_kit_TooMany_BadName : PySem.W.kitOne K (.ref (ga K "TooMany")) (.ref (ga K "BadName")) = some false := by
    have h : (kitB1 K (ga K "TooMany") (.ref (ga K "BadName")) false) = true := more _ (List.mem_of_getElem? (i := 180) rfl)
    exact of_decide_eq_true h
  have kf_kit_TooMany_BadPlace : PySem.W.kitOne K (.ref (ga K "TooMany")) (.ref (ga K "BadPlace")) = some false := by
    have h : (kitB1 K (ga K "TooMany") (.ref (ga K "BadPlace")) false) = true := more _ (List.mem_of_getElem? (i := 181) rfl)
    exact of_decide_eq_true h
  have kf_kit_TooMany_BadRule : PySem.W.kitOne K (.ref (ga K "TooMany")) (.ref (ga K "BadRule")) = some false := by
    have h : (kitB1 K (ga K "TooMany") (.ref (ga K "BadRule")) false) = true := more _ (List.mem_of_getElem? (i := 182) rfl)
    exact of_decide_eq_true h
  have kf_kit_TooMany_BadWindow : PySem.W.kitOne K (.ref (ga K "TooMany")) (.ref (ga K "BadWindow")) = some false := by
    have h : (kitB1 K (ga K "TooMany") (.ref (ga K "BadWindow")) false) = true := more _ (List.mem_of_getElem? (i := 183) rfl)
    exact of_decide_eq_true h
  have kf_kit_TooMany_NoAnswer : PySem.W.kitOne K (.ref (ga K "TooMany")) (.ref (ga K "NoAnswer")) = some false := by
    have h : (kitB1 K (ga K "TooMany") (.ref (ga K "NoAnswer")) false) = true := more _ (List.mem_of_getElem? (i := 184) rfl)
    exact of_decide_eq_true h
  have kf_kit_TooMany_NoMove : PySem.W.kitOne K (.ref (ga K "TooMany")) (.ref (ga K "NoMove")) = some false := by
    have h : (kitB1 K (ga K "TooMany") (.ref (ga K "NoMove")) false) = true := more _ (List.mem_of_getElem? (i := 185) rfl)
    exact of_decide_eq_true h
  have kf_kit_TooMany_Silent : PySem.W.kitOne K (.ref (ga K "TooMany")) (.ref (ga K "Silent")) = some false := by
    have h : (kitB1 K (ga K "TooMany") (.ref (ga K "Silent")) false) = true := more _ (List.mem_of_getElem? (i := 186) rfl)
    exact of_decide_eq_true h
  have kf_kit_TooMany_SizeMismatch : PySem.W.kitOne K (.ref (ga K "TooMany")) (.ref (ga K "SizeMismatch")) = some false := by
    have h : (kitB1 K (ga K "TooMany") (.ref (ga K "SizeMismatch")) false) = true := more _ (List.mem_of_getElem? (i := 187) rfl)
    exact of_decide_eq_true h
  have kf_kit_TooMany_TooMany : PySem.W.kitOne K (.ref (ga K "TooMany")) (.ref (ga K "TooMany")) = some true := by
    have h : (kitB1 K (ga K "TooMany") (.ref (ga K "TooMany")) true) = true := more _ (List.mem_of_getElem? (i := 188) rfl)
    exact of_decide_eq_true h
  have kf_kit_TooMany_Twice : PySem.W.kitOne K (.ref (ga K "TooMany")) (.ref (ga K "Twice")) = some false := by
    have h : (kitB1 K (ga K "TooMany") (.ref (ga K "Twice")) false) = true := more _ (List.mem_of_getElem? (i := 189) rfl)
    exact of_decide_eq_true h
  have kf_kit_TooMany_UnknownNote : PySem.W.kitOne K (.ref (ga K "TooMany")) (.ref (ga K "UnknownNote")) = some false := by
    have h : (kitB1 K (ga K "TooMany") (.ref (ga K "UnknownNote")) false) = true := more _ (List.mem_of_getElem? (i := 190) rfl)
    exact of_decide_eq_true h
  have kf_kit_TooMany_UnknownPair : PySem.W.kitOne K (.ref (ga K "TooMany")) (.ref (ga K "UnknownPair")) = some false := by
    have h : (kitB1 K (ga K "TooMany") (.ref (ga K "UnknownPair")) false) = true := more _ (List.mem_of_getElem? (i := 191) rfl)
    exact of_decide_eq_true h
  have kf_kitT_TooMany_ValueError : PySem.W.kitOne K (.ref (ga K "TooMany")) (.type "ValueError") = some true := by
    have h : (kitB1 K (ga K "TooMany") (.type "ValueError") true) = true := more _ (List.mem_of_getElem? (i := 192) rfl)
    exact of_decide_eq_true h
  have kf_ec_Twice : Ec K (ga K "Twice") := by
    have h : (ecB K (ga K "Twice")) = true := more _ (List.mem_of_getElem? (i := 193) rfl)
    exact ecB_ok h
  have kf_nf_Twice_name : PySem.W.findIn K (.ref (ga K "Twice")) "name" = some none := by
    have h : (noatB K (ga K "Twice") "name") = true := more _ (List.mem_of_getElem? (i := 194) rfl)
    exact He.eqO_ok h
  have kf_exm_Twice_VoiceError : PySem.W.exmOne K (.ref (ga K "Twice")) (.ref (ga K "VoiceError")) = some true := by
    have h : (exmB K (ga K "Twice") (ga K "VoiceError") true) = true := more _ (List.mem_of_getElem? (i := 195) rfl)
    exact of_decide_eq_true h
  have kf_kit_Twice_BadAhead : PySem.W.kitOne K (.ref (ga K "Twice")) (.ref (ga K "BadAhead")) = some false := by
    have h : (kitB1 K (ga K "Twice") (.ref (ga K "BadAhead")) false) = true := more _ (List.mem_of_getElem? (i := 196) rfl)
    exact of_decide_eq_true h
  have kf_kit_Twice_BadLine : PySem.W.kitOne K (.ref (ga K "Twice")) (.ref (ga K "BadLine")) = some false := by
    have h : (kitB1 K (ga K "Twice") (.ref (ga K "BadLine")) false) = true := more _ (List.mem_of_getElem? (i := 197) rfl)
    exact of_decide_eq_true h
  have kf_kit_Twice_BadName : PySem.W.kitOne K (.ref (ga K "Twice")) (.ref (ga K "BadName")) = some false := by
    have h : (kitB1 K (ga K "Twice") (.ref (ga K "BadName")) false) = true := more _ (List.mem_of_getElem? (i := 198) rfl)
    exact of_decide_eq_true h
  have kf_kit_Twice_BadPlace : PySem.W.kitOne K (.ref (ga K "Twice")) (.ref (ga K "BadPlace")) = some false := by
    have h : (kitB1 K (ga K "Twice") (.ref (ga K "BadPlace")) false) = true := more _ (List.mem_of_getElem? (i := 199) rfl)
    exact of_decide_eq_true h
  have kf_kit_Twice_BadRule : PySem.W.kitOne K (.ref (ga K "Twice")) (.ref (ga K "BadRule")) = some false := by
    have h : (kitB1 K (ga K "Twice") (.ref (ga K "BadRule")) false) = true := more _ (List.mem_of_getElem? (i := 200) rfl)
    exact of_decide_eq_true h
  have kf_kit_Twice_BadWindow : PySem.W.kitOne K (.ref (ga K "Twice")) (.ref (ga K "BadWindow")) = some false := by
    have h : (kitB1 K (ga K "Twice") (.ref (ga K "BadWindow")) false) = true := more _ (List.mem_of_getElem? (i := 201) rfl)
    exact of_decide_eq_true h
  have kf_kit_Twice_NoAnswer : PySem.W.kitOne K (.ref (ga K "Twice")) (.ref (ga K "NoAnswer")) = some false := by
    have h : (kitB1 K (ga K "Twice") (.ref (ga K "NoAnswer")) false) = true := more _ (List.mem_of_getElem? (i := 202) rfl)
    exact of_decide_eq_true h
  have kf_kit_Twice_NoMove : PySem.W.kitOne K (.ref (ga K "Twice")) (.ref (ga K "NoMove")) = some false := by
    have h : (kitB1 K (ga K "Twice") (.ref (ga K "NoMove")) false) = true := more _ (List.mem_of_getElem? (i := 203) rfl)
    exact of_decide_eq_true h
  have kf_kit_Twice_Silent : PySem.W.kitOne K (.ref (ga K "Twice")) (.ref (ga K "Silent")) = some false := by
    have h : (kitB1 K (ga K "Twice") (.ref (ga K "Silent")) false) = true := more _ (List.mem_of_getElem? (i := 204) rfl)
    exact of_decide_eq_true h
  have kf_kit_Twice_SizeMismatch : PySem.W.kitOne K (.ref (ga K "Twice")) (.ref (ga K "SizeMismatch")) = some false := by
    have h : (kitB1 K (ga K "Twice") (.ref (ga K "SizeMismatch")) false) = true := more _ (List.mem_of_getElem? (i := 205) rfl)
    exact of_decide_eq_true h
  have kf_kit_Twice_TooMany : PySem.W.kitOne K (.ref (ga K "Twice")) (.ref (ga K "TooMany")) = some false := by
    have h : (kitB1 K (ga K "Twice") (.ref (ga K "TooMany")) false) = true := more _ (List.mem_of_getElem? (i := 206) rfl)
    exact of_decide_eq_true h
  have kf_kit_Twice_Twice : PySem.W.kitOne K (.ref (ga K "Twice")) (.ref (ga K "Twice")) = some true := by
    have h : (kitB1 K (ga K "Twice") (.ref (ga K "Twice")) true) = true := more _ (List.mem_of_getElem? (i := 207) rfl)
    exact of_decide_eq_true h
  have kf_kit_Twice_UnknownNote : PySem.W.kitOne K (.ref (ga K "Twice")) (.ref (ga K "UnknownNote")) = some false := by
    have h : (kitB1 K (ga K "Twice") (.ref (ga K "UnknownNote")) false) = true := more _ (List.mem_of_getElem? (i := 208) rfl)
    exact of_decide_eq_true h
  have kf_kit_Twice_UnknownPair : PySem.W.kitOne K (.ref (ga K "Twice")) (.ref (ga K "UnknownPair")) = some false := by
    have h : (kitB1 K (ga K "Twice") (.ref (ga K "UnknownPair")) false) = true := more _ (List.mem_of_getElem? (i := 209) rfl)
    exact of_decide_eq_true h
  have kf_kitT_Twice_ValueError : PySem.W.kitOne K (.ref (ga K "Twice")) (.type "ValueError") = some true := by
    have h : (kitB1 K (ga K "Twice") (.type "ValueError") true) = true := more _ (List.mem_of_getElem? (i := 210) rfl)
    exact of_decide_eq_true h
  have kf_ec_UnknownNote : Ec K (ga K "UnknownNote") := by
    have h : (ecB K (ga K "UnknownNote")) = true := more _ (List.mem_of_getElem? (i := 211) rfl)
    exact ecB_ok h
  have kf_nf_UnknownNote_note : PySem.W.findIn K (.ref (ga K "UnknownNote")) "note" = some none := by
    have h : (noatB K (ga K "UnknownNote") "note") = true := more _ (List.mem_of_getElem? (i := 212) rfl)
    exact He.eqO_ok h
  have kf_exm_UnknownNote_VoiceError : PySem.W.exmOne K (.ref (ga K "UnknownNote")) (.ref (ga K "VoiceError")) = some true := by
    have h : (exmB K (ga K "UnknownNote") (ga K "VoiceError") true) = true := more _ (List.mem_of_getElem? (i := 213) rfl)
    exact of_decide_eq_true h
  have kf_kit_UnknownNote_BadAhead : PySem.W.kitOne K (.ref (ga K "UnknownNote")) (.ref (ga K "BadAhead")) = some false := by
    have h : (kitB1 K (ga K "UnknownNote") (.ref (ga K "BadAhead")) false) = true := more _ (List.mem_of_getElem? (i := 214) rfl)
    exact of_decide_eq_true h
  have kf_kit_UnknownNote_BadLine : PySem.W.kitOne K (.ref (ga K "UnknownNote")) (.ref (ga K "BadLine")) = some false := by
    have h : (kitB1 K (ga K "UnknownNote") (.ref (ga K "BadLine")) false) = true := more _ (List.mem_of_getElem? (i := 215) rfl)
    exact of_decide_eq_true h
  have kf_kit_UnknownNote_BadName : PySem.W.kitOne K (.ref (ga K "UnknownNote")) (.ref (ga K "BadName")) = some false := by
    have h : (kitB1 K (ga K "UnknownNote") (.ref (ga K "BadName")) false) = true := more _ (List.mem_of_getElem? (i := 216) rfl)
    exact of_decide_eq_true h
  have kf_kit_UnknownNote_BadPlace : PySem.W.kitOne K (.ref (ga K "UnknownNote")) (.ref (ga K "BadPlace")) = some false := by
    have h : (kitB1 K (ga K "UnknownNote") (.ref (ga K "BadPlace")) false) = true := more _ (List.mem_of_getElem? (i := 217) rfl)
    exact of_decide_eq_true h
  have kf_kit_UnknownNote_BadRule : PySem.W.kitOne K (.ref (ga K "UnknownNote")) (.ref (ga K "BadRule")) = some false := by
    have h : (kitB1 K (ga K "UnknownNote") (.ref (ga K "BadRule")) false) = true := more _ (List.mem_of_getElem? (i := 218) rfl)
    exact of_decide_eq_true h
  have kf_kit_UnknownNote_BadWindow : PySem.W.kitOne K (.ref (ga K "UnknownNote")) (.ref (ga K "BadWindow")) = some false := by
    have h : (kitB1 K (ga K "UnknownNote") (.ref (ga K "BadWindow")) false) = true := more _ (List.mem_of_getElem? (i := 219) rfl)
    exact of_decide_eq_true h
  have kf_kit_UnknownNote_NoAnswer : PySem.W.kitOne K (.ref (ga K "UnknownNote")) (.ref (ga K "NoAnswer")) = some false := by
    have h : (kitB1 K (ga K "UnknownNote") (.ref (ga K "NoAnswer")) false) = true := more _ (List.mem_of_getElem? (i := 220) rfl)
    exact of_decide_eq_true h
  have kf_kit_UnknownNote_NoMove : PySem.W.kitOne K (.ref (ga K "UnknownNote")) (.ref (ga K "NoMove")) = some false := by
    have h : (kitB1 K (ga K "UnknownNote") (.ref (ga K "NoMove")) false) = true := more _ (List.mem_of_getElem? (i := 221) rfl)
    exact of_decide_eq_true h
  have kf_kit_UnknownNote_Silent : PySem.W.kitOne K (.ref (ga K "UnknownNote")) (.ref (ga K "Silent")) = some false := by
    have h : (kitB1 K (ga K "UnknownNote") (.ref (ga K "Silent")) false) = true := more _ (List.mem_of_getElem? (i := 222) rfl)
    exact of_decide_eq_true h
  have kf_kit_UnknownNote_SizeMismatch : PySem.W.kitOne K (.ref (ga K "UnknownNote")) (.ref (ga K "SizeMismatch")) = some false := by
    have h : (kitB1 K (ga K "UnknownNote") (.ref (ga K "SizeMismatch")) false) = true := more _ (List.mem_of_getElem? (i := 223) rfl)
    exact of_decide_eq_true h
  have kf_kit_UnknownNote_TooMany : PySem.W.kitOne K (.ref (ga K "UnknownNote")) (.ref (ga K "TooMany")) = some false := by
    have h : (kitB1 K (ga K "UnknownNote") (.ref (ga K "TooMany")) false) = true := more _ (List.mem_of_getElem? (i := 224) rfl)
    exact of_decide_eq_true h
  have kf_kit_UnknownNote_Twice : PySem.W.kitOne K (.ref (ga K "UnknownNote")) (.ref (ga K "Twice")) = some false := by
    have h : (kitB1 K (ga K "UnknownNote") (.ref (ga K "Twice")) false) = true := more _ (List.mem_of_getElem? (i := 225) rfl)
    exact of_decide_eq_true h
  have kf_kit_UnknownNote_UnknownNote : PySem.W.kitOne K (.ref (ga K "UnknownNote")) (.ref (ga K "UnknownNote")) = some true := by
    have h : (kitB1 K (ga K "UnknownNote") (.ref (ga K "UnknownNote")) true) = true := more _ (List.mem_of_getElem? (i := 226) rfl)
    exact of_decide_eq_true h
  have kf_kit_UnknownNote_UnknownPair : PySem.W.kitOne K (.ref (ga K "UnknownNote")) (.ref (ga K "UnknownPair")) = some false := by
    have h : (kitB1 K (ga K "UnknownNote") (.ref (ga K "UnknownPair")) false) = true := more _ (List.mem_of_getElem? (i := 227) rfl)
    exact of_decide_eq_true h
  have kf_kitT_UnknownNote_ValueError : PySem.W.kitOne K (.ref (ga K "UnknownNote")) (.type "ValueError") = some true := by
    have h : (kitB1 K (ga K "UnknownNote") (.type "ValueError") true) = true := more _ (List.mem_of_getElem? (i := 228) rfl)
    exact of_decide_eq_true h
  have kf_ec_UnknownPair : Ec K (ga K "UnknownPair") := by
    have h : (ecB K (ga K "UnknownPair")) = true := more _ (List.mem_of_getElem? (i := 229) rfl)
    exact ecB_ok h
  have kf_nf_UnknownPair_pair : PySem.W.findIn K (.ref (ga K "UnknownPair")) "pair" = some none := by
    have h : (noatB K (ga K "UnknownPair") "pair") = true := more _ (List.mem_of_getElem? (i := 230) rfl)
    exact He.eqO_ok h
  have kf_exm_UnknownPair_VoiceError : PySem.W.exmOne K (.ref (ga K "UnknownPair")) (.ref (ga K "VoiceError")) = some true := by
    have h : (exmB K (ga K "UnknownPair") (ga K "VoiceError") true) = true := more _ (List.mem_of_getElem? (i := 231) rfl)
    exact of_decide_eq_true h
  have kf_kit_UnknownPair_BadAhead : PySem.W.kitOne K (.ref (ga K "UnknownPair")) (.ref (ga K "BadAhead")) = some false := by
    have h : (kitB1 K (ga K "UnknownPair") (.ref (ga K "BadAhead")) false) = true := more _ (List.mem_of_getElem? (i := 232) rfl)
    exact of_decide_eq_true h
  have kf_kit_UnknownPair_BadLine : PySem.W.kitOne K (.ref (ga K "UnknownPair")) (.ref (ga K "BadLine")) = some false := by
    have h : (kitB1 K (ga K "UnknownPair") (.ref (ga K "BadLine")) false) = true := more _ (List.mem_of_getElem? (i := 233) rfl)
    exact of_decide_eq_true h
  have kf_kit_UnknownPair_BadName : PySem.W.kitOne K (.ref (ga K "UnknownPair")) (.ref (ga K "BadName")) = some false := by
    have h : (kitB1 K (ga K "UnknownPair") (.ref (ga K "BadName")) false) = true := more _ (List.mem_of_getElem? (i := 234) rfl)
    exact of_decide_eq_true h
  have kf_kit_UnknownPair_BadPlace : PySem.W.kitOne K (.ref (ga K "UnknownPair")) (.ref (ga K "BadPlace")) = some false := by
    have h : (kitB1 K (ga K "UnknownPair") (.ref (ga K "BadPlace")) false) = true := more _ (List.mem_of_getElem? (i := 235) rfl)
    exact of_decide_eq_true h
  have kf_kit_UnknownPair_BadRule : PySem.W.kitOne K (.ref (ga K "UnknownPair")) (.ref (ga K "BadRule")) = some false := by
    have h : (kitB1 K (ga K "UnknownPair") (.ref (ga K "BadRule")) false) = true := more _ (List.mem_of_getElem? (i := 236) rfl)
    exact of_decide_eq_true h
  have kf_kit_UnknownPair_BadWindow : PySem.W.kitOne K (.ref (ga K "UnknownPair")) (.ref (ga K "BadWindow")) = some false := by
    have h : (kitB1 K (ga K "UnknownPair") (.ref (ga K "BadWindow")) false) = true := more _ (List.mem_of_getElem? (i := 237) rfl)
    exact of_decide_eq_true h
  have kf_kit_UnknownPair_NoAnswer : PySem.W.kitOne K (.ref (ga K "UnknownPair")) (.ref (ga K "NoAnswer")) = some false := by
    have h : (kitB1 K (ga K "UnknownPair") (.ref (ga K "NoAnswer")) false) = true := more _ (List.mem_of_getElem? (i := 238) rfl)
    exact of_decide_eq_true h
  have kf_kit_UnknownPair_NoMove : PySem.W.kitOne K (.ref (ga K "UnknownPair")) (.ref (ga K "NoMove")) = some false := by
    have h : (kitB1 K (ga K "UnknownPair") (.ref (ga K "NoMove")) false) = true := more _ (List.mem_of_getElem? (i := 239) rfl)
    exact of_decide_eq_true h
  have kf_kit_UnknownPair_Silent : PySem.W.kitOne K (.ref (ga K "UnknownPair")) (.ref (ga K "Silent")) = some false := by
    have h : (kitB1 K (ga K "UnknownPair") (.ref (ga K "Silent")) false) = true := more _ (List.mem_of_getElem? (i := 240) rfl)
    exact of_decide_eq_true h
  have kf_kit_UnknownPair_SizeMismatch : PySem.W.kitOne K (.ref (ga K "UnknownPair")) (.ref (ga K "SizeMismatch")) = some false := by
    have h : (kitB1 K (ga K "UnknownPair") (.ref (ga K "SizeMismatch")) false) = true := more _ (List.mem_of_getElem? (i := 241) rfl)
    exact of_decide_eq_true h
  have kf_kit_UnknownPair_TooMany : PySem.W.kitOne K (.ref (ga K "UnknownPair")) (.ref (ga K "TooMany")) = some false := by
    have h : (kitB1 K (ga K "UnknownPair") (.ref (ga K "TooMany")) false) = true := more _ (List.mem_of_getElem? (i := 242) rfl)
    exact of_decide_eq_true h
  have kf_kit_UnknownPair_Twice : PySem.W.kitOne K (.ref (ga K "UnknownPair")) (.ref (ga K "Twice")) = some false := by
    have h : (kitB1 K (ga K "UnknownPair") (.ref (ga K "Twice")) false) = true := more _ (List.mem_of_getElem? (i := 243) rfl)
    exact of_decide_eq_true h
  have kf_kit_UnknownPair_UnknownNote : PySem.W.kitOne K (.ref (ga K "UnknownPair")) (.ref (ga K "UnknownNote")) = some false := by
    have h : (kitB1 K (ga K "UnknownPair") (.ref (ga K "UnknownNote")) false) = true := more _ (List.mem_of_getElem? (i := 244) rfl)
    exact of_decide_eq_true h
  have kf_kit_UnknownPair_UnknownPair : PySem.W.kitOne K (.ref (ga K "UnknownPair")) (.ref (ga K "UnknownPair")) = some true := by
    have h : (kitB1 K (ga K "UnknownPair") (.ref (ga K "UnknownPair")) true) = true := more _ (List.mem_of_getElem? (i := 245) rfl)
    exact of_decide_eq_true h
  have kf_kitT_UnknownPair_ValueError : PySem.W.kitOne K (.ref (ga K "UnknownPair")) (.type "ValueError") = some true := by
    have h : (kitB1 K (ga K "UnknownPair") (.type "ValueError") true) = true := more _ (List.mem_of_getElem? (i := 246) rfl)
    exact of_decide_eq_true h
  have k_oex_BadAhead : OexC K (ga K "BadAhead") := by
    have h : (oexB K (ga K "BadAhead")) = true := more _ (List.mem_of_getElem? (i := 247) rfl)
    exact oexB_ok h
  have k_xin_BadAhead : xinB K (ga K "BadAhead") = true := by
    have h : (xinB K (ga K "BadAhead")) = true := more _ (List.mem_of_getElem? (i := 248) rfl)
    exact h
  have k_nf_BadAhead_ahead : PySem.W.findIn K (.ref (ga K "BadAhead")) "ahead" = some none := by
    have h : (noatB K (ga K "BadAhead") "ahead") = true := more _ (List.mem_of_getElem? (i := 249) rfl)
    exact He.eqO_ok h
  have k_oex_BadLine : OexC K (ga K "BadLine") := by
    have h : (oexB K (ga K "BadLine")) = true := more _ (List.mem_of_getElem? (i := 250) rfl)
    exact oexB_ok h
  have k_xin_BadLine : xinB K (ga K "BadLine") = true := by
    have h : (xinB K (ga K "BadLine")) = true := more _ (List.mem_of_getElem? (i := 251) rfl)
    exact h
  have k_nf_BadLine_number : PySem.W.findIn K (.ref (ga K "BadLine")) "number" = some none := by
    have h : (noatB K (ga K "BadLine") "number") = true := more _ (List.mem_of_getElem? (i := 252) rfl)
    exact He.eqO_ok h
  have k_oex_BadName : OexC K (ga K "BadName") := by
    have h : (oexB K (ga K "BadName")) = true := more _ (List.mem_of_getElem? (i := 253) rfl)
    exact oexB_ok h
  have k_xin_BadName : xinB K (ga K "BadName") = true := by
    have h : (xinB K (ga K "BadName")) = true := more _ (List.mem_of_getElem? (i := 254) rfl)
    exact h
  have k_nf_BadName_name : PySem.W.findIn K (.ref (ga K "BadName")) "name" = some none := by
    have h : (noatB K (ga K "BadName") "name") = true := more _ (List.mem_of_getElem? (i := 255) rfl)
    exact He.eqO_ok h
  have k_oex_BadPlace : OexC K (ga K "BadPlace") := by
    have h : (oexB K (ga K "BadPlace")) = true := more _ (List.mem_of_getElem? (i := 256) rfl)
    exact oexB_ok h
  have k_xin_BadPlace : xinB K (ga K "BadPlace") = true := by
    have h : (xinB K (ga K "BadPlace")) = true := more _ (List.mem_of_getElem? (i := 257) rfl)
    exact h
  have k_nf_BadPlace_place : PySem.W.findIn K (.ref (ga K "BadPlace")) "place" = some none := by
    have h : (noatB K (ga K "BadPlace") "place") = true := more _ (List.mem_of_getElem? (i := 258) rfl)
    exact He.eqO_ok h
  have k_oex_BadRule : OexC K (ga K "BadRule") := by
    have h : (oexB K (ga K "BadRule")) = true := more _ (List.mem_of_getElem? (i := 259) rfl)
    exact oexB_ok h
  have k_xin_BadRule : xinB K (ga K "BadRule") = true := by
    have h : (xinB K (ga K "BadRule")) = true := more _ (List.mem_of_getElem? (i := 260) rfl)
    exact h
  have k_nf_BadRule_rule : PySem.W.findIn K (.ref (ga K "BadRule")) "rule" = some none := by
    have h : (noatB K (ga K "BadRule") "rule") = true := more _ (List.mem_of_getElem? (i := 261) rfl)
    exact He.eqO_ok h
  have k_xo_BadWindow : xoB K (ga K "BadWindow") = true := by
    have h : (xoB K (ga K "BadWindow")) = true := more _ (List.mem_of_getElem? (i := 262) rfl)
    exact h
  have k_xo_NoAnswer : xoB K (ga K "NoAnswer") = true := by
    have h : (xoB K (ga K "NoAnswer")) = true := more _ (List.mem_of_getElem? (i := 263) rfl)
    exact h
  have k_xo_NoMove : xoB K (ga K "NoMove") = true := by
    have h : (xoB K (ga K "NoMove")) = true := more _ (List.mem_of_getElem? (i := 264) rfl)
    exact h
  have k_oex_Silent : OexC K (ga K "Silent") := by
    have h : (oexB K (ga K "Silent")) = true := more _ (List.mem_of_getElem? (i := 265) rfl)
    exact oexB_ok h
  have k_xin_Silent : xinB K (ga K "Silent") = true := by
    have h : (xinB K (ga K "Silent")) = true := more _ (List.mem_of_getElem? (i := 266) rfl)
    exact h
  have k_nf_Silent_voice : PySem.W.findIn K (.ref (ga K "Silent")) "voice" = some none := by
    have h : (noatB K (ga K "Silent") "voice") = true := more _ (List.mem_of_getElem? (i := 267) rfl)
    exact He.eqO_ok h
  have k_xo_SizeMismatch : xoB K (ga K "SizeMismatch") = true := by
    have h : (xoB K (ga K "SizeMismatch")) = true := more _ (List.mem_of_getElem? (i := 268) rfl)
    exact h
  have k_xo_TooMany : xoB K (ga K "TooMany") = true := by
    have h : (xoB K (ga K "TooMany")) = true := more _ (List.mem_of_getElem? (i := 269) rfl)
    exact h
  have k_oex_Twice : OexC K (ga K "Twice") := by
    have h : (oexB K (ga K "Twice")) = true := more _ (List.mem_of_getElem? (i := 270) rfl)
    exact oexB_ok h
  have k_xin_Twice : xinB K (ga K "Twice") = true := by
    have h : (xinB K (ga K "Twice")) = true := more _ (List.mem_of_getElem? (i := 271) rfl)
    exact h
  have k_nf_Twice_name : PySem.W.findIn K (.ref (ga K "Twice")) "name" = some none := by
    have h : (noatB K (ga K "Twice") "name") = true := more _ (List.mem_of_getElem? (i := 272) rfl)
    exact He.eqO_ok h
  have k_oex_UnknownNote : OexC K (ga K "UnknownNote") := by
    have h : (oexB K (ga K "UnknownNote")) = true := more _ (List.mem_of_getElem? (i := 273) rfl)
    exact oexB_ok h
  have k_xin_UnknownNote : xinB K (ga K "UnknownNote") = true := by
    have h : (xinB K (ga K "UnknownNote")) = true := more _ (List.mem_of_getElem? (i := 274) rfl)
    exact h
  have k_nf_UnknownNote_note : PySem.W.findIn K (.ref (ga K "UnknownNote")) "note" = some none := by
    have h : (noatB K (ga K "UnknownNote") "note") = true := more _ (List.mem_of_getElem? (i := 275) rfl)
    exact He.eqO_ok h
  have k_oex_UnknownPair : OexC K (ga K "UnknownPair") := by
    have h : (oexB K (ga K "UnknownPair")) = true := more _ (List.mem_of_getElem? (i := 276) rfl)
    exact oexB_ok h
  have k_xin_UnknownPair : xinB K (ga K "UnknownPair") = true := by
    have h : (xinB K (ga K "UnknownPair")) = true := more _ (List.mem_of_getElem? (i := 277) rfl)
    exact h
  have k_nf_UnknownPair_pair : PySem.W.findIn K (.ref (ga K "UnknownPair")) "pair" = some none := by
    have h : (noatB K (ga K "UnknownPair") "pair") = true := more _ (List.mem_of_getElem? (i := 278) rfl)
    exact He.eqO_ok h
  obtain ⟨fd__law_cell, F_un__law_cell⟩ := cd.def_ 0 (d := d__law_cell) rfl
  have Fun__law_cell : FunU K "_law_cell" "_law_cell" s__law_cell _ fd__law_cell := funU_of F_un__law_cell
  have b__law_cell : Binds K fd__law_cell ["_law_script", "_law_k"] [] := FunD.bindsN (ps := ["_law_script", "_law_k"]) F_un__law_cell fun _ _ _ _ _ _ us hl => match us, hl with | [_, _], _ => rfl
  obtain ⟨fd__law_digits, F_un__law_digits⟩ := cd.def_ 1 (d := d__law_digits) rfl
  have Fun__law_digits : FunU K "_law_digits" "_law_digits" s__law_digits _ fd__law_digits := funU_of F_un__law_digits
  have b__law_digits : Binds K fd__law_digits ["_law_script", "_law_k", "_law_count"] [] := FunD.bindsN (ps := ["_law_script", "_law_k", "_law_count"]) F_un__law_digits fun _ _ _ _ _ _ us hl => match us, hl with | [_, _, _], _ => rfl
  obtain ⟨fd__law_names, F_un__law_names⟩ := cd.def_ 2 (d := d__law_names) rfl
  have Fun__law_names : FunU K "_law_names" "_law_names" s__law_names _ fd__law_names := funU_of F_un__law_names
  have b__law_names : Binds K fd__law_names ["_law_script", "_law_k", "_law_count"] [] := FunD.bindsN (ps := ["_law_script", "_law_k", "_law_count"]) F_un__law_names fun _ _ _ _ _ _ us hl => match us, hl with | [_, _, _], _ => rfl
  obtain ⟨fd__law_bare, F_un__law_bare⟩ := cd.def_ 3 (d := d__law_bare) rfl
  have Fun__law_bare : FunU K "_law_bare" "_law_bare" s__law_bare _ fd__law_bare := funU_of F_un__law_bare
  have b__law_bare : Binds K fd__law_bare ["_law_k"] [] := FunD.bindsN (ps := ["_law_k"]) F_un__law_bare fun _ _ _ _ _ _ us hl => match us, hl with | [_], _ => rfl
  obtain ⟨fd__law_raised, F_un__law_raised⟩ := cd.def_ 4 (d := d__law_raised) rfl
  have Fun__law_raised : FunU K "_law_raised" "_law_raised" s__law_raised _ fd__law_raised := funU_of F_un__law_raised
  have b__law_raised : Binds K fd__law_raised ["_law_k", "_law_name", "_law_number"] [] := FunD.bindsN (ps := ["_law_k", "_law_name", "_law_number"]) F_un__law_raised fun _ _ _ _ _ _ us hl => match us, hl with | [_, _, _], _ => rfl
  obtain ⟨fd_law, F_un_law⟩ := cd.def_ 5 (d := d_law) rfl
  have Fun_law : FunU K "law" "law" s_law _ fd_law := funU_of F_un_law
  have b_law : Binds K fd_law ["_law_script"] [] := FunD.bindsN (ps := ["_law_script"]) F_un_law fun _ _ _ _ _ _ us hl => match us, hl with | [_], _ => rfl
  obtain ⟨fd_BadAhead, F_un_BadAhead⟩ := cd.def_ 6 (d := d_BadAhead) rfl
  have Fun_BadAhead : FunU K "__init__" "BadAhead.__init__" s_BadAhead _ fd_BadAhead := funU_of F_un_BadAhead
  have b_BadAhead : Binds K fd_BadAhead ["self", "ahead"] [] := FunD.bindsN (ps := ["self", "ahead"]) F_un_BadAhead fun _ _ _ _ _ _ us hl => match us, hl with | [_, _], _ => rfl
  obtain ⟨fd_BadLine, F_un_BadLine⟩ := cd.def_ 7 (d := d_BadLine) rfl
  have Fun_BadLine : FunU K "__init__" "BadLine.__init__" s_BadLine _ fd_BadLine := funU_of F_un_BadLine
  have b_BadLine : Binds K fd_BadLine ["self", "number"] [] := FunD.bindsN (ps := ["self", "number"]) F_un_BadLine fun _ _ _ _ _ _ us hl => match us, hl with | [_, _], _ => rfl
  obtain ⟨fd_BadName, F_un_BadName⟩ := cd.def_ 8 (d := d_BadName) rfl
  have Fun_BadName : FunU K "__init__" "BadName.__init__" s_BadName _ fd_BadName := funU_of F_un_BadName
  have b_BadName : Binds K fd_BadName ["self", "name"] [] := FunD.bindsN (ps := ["self", "name"]) F_un_BadName fun _ _ _ _ _ _ us hl => match us, hl with | [_, _], _ => rfl
  obtain ⟨fd_BadPlace, F_un_BadPlace⟩ := cd.def_ 9 (d := d_BadPlace) rfl
  have Fun_BadPlace : FunU K "__init__" "BadPlace.__init__" s_BadPlace _ fd_BadPlace := funU_of F_un_BadPlace
  have b_BadPlace : Binds K fd_BadPlace ["self", "place"] [] := FunD.bindsN (ps := ["self", "place"]) F_un_BadPlace fun _ _ _ _ _ _ us hl => match us, hl with | [_, _], _ => rfl
  obtain ⟨fd_BadRule, F_un_BadRule⟩ := cd.def_ 10 (d := d_BadRule) rfl
  have Fun_BadRule : FunU K "__init__" "BadRule.__init__" s_BadRule _ fd_BadRule := funU_of F_un_BadRule
  have b_BadRule : Binds K fd_BadRule ["self", "rule"] [] := FunD.bindsN (ps := ["self", "rule"]) F_un_BadRule fun _ _ _ _ _ _ us hl => match us, hl with | [_, _], _ => rfl
  obtain ⟨fd_Silent, F_un_Silent⟩ := cd.def_ 11 (d := d_Silent) rfl
  have Fun_Silent : FunU K "__init__" "Silent.__init__" s_Silent _ fd_Silent := funU_of F_un_Silent
  have b_Silent : Binds K fd_Silent ["self", "voice"] [] := FunD.bindsN (ps := ["self", "voice"]) F_un_Silent fun _ _ _ _ _ _ us hl => match us, hl with | [_, _], _ => rfl
  obtain ⟨fd_Twice, F_un_Twice⟩ := cd.def_ 12 (d := d_Twice) rfl
  have Fun_Twice : FunU K "__init__" "Twice.__init__" s_Twice _ fd_Twice := funU_of F_un_Twice
  have b_Twice : Binds K fd_Twice ["self", "name"] [] := FunD.bindsN (ps := ["self", "name"]) F_un_Twice fun _ _ _ _ _ _ us hl => match us, hl with | [_, _], _ => rfl
  obtain ⟨fd_UnknownNote, F_un_UnknownNote⟩ := cd.def_ 13 (d := d_UnknownNote) rfl
  have Fun_UnknownNote : FunU K "__init__" "UnknownNote.__init__" s_UnknownNote _ fd_UnknownNote := funU_of F_un_UnknownNote
  have b_UnknownNote : Binds K fd_UnknownNote ["self", "note"] [] := FunD.bindsN (ps := ["self", "note"]) F_un_UnknownNote fun _ _ _ _ _ _ us hl => match us, hl with | [_, _], _ => rfl
  obtain ⟨fd_UnknownPair, F_un_UnknownPair⟩ := cd.def_ 14 (d := d_UnknownPair) rfl
  have Fun_UnknownPair : FunU K "__init__" "UnknownPair.__init__" s_UnknownPair _ fd_UnknownPair := funU_of F_un_UnknownPair
  have b_UnknownPair : Binds K fd_UnknownPair ["self", "pair"] [] := FunD.bindsN (ps := ["self", "pair"]) F_un_UnknownPair fun _ _ _ _ _ _ us hl => match us, hl with | [_, _], _ => rfl
  have e := hfa.symm.trans g_law
  cases e
  refine ⟨⟨kf_ec_BadAhead, kf_nf_BadAhead_ahead, kf_exm_BadAhead_VoiceError, kf_kit_BadAhead_BadAhead, kf_kit_BadAhead_BadLine, kf_kit_BadAhead_BadName, kf_kit_BadAhead_BadPlace, kf_kit_BadAhead_BadRule, kf_kit_BadAhead_BadWindow, kf_kit_BadAhead_NoAnswer, kf_kit_BadAhead_NoMove, kf_kit_BadAhead_Silent, kf_kit_BadAhead_SizeMismatch, kf_kit_BadAhead_TooMany, kf_kit_BadAhead_Twice, kf_kit_BadAhead_UnknownNote, kf_kit_BadAhead_UnknownPair, kf_kitT_BadAhead_ValueError, kf_ec_BadLine, kf_nf_BadLine_number, kf_exm_BadLine_VoiceError, kf_kit_BadLine_BadAhead, kf_kit_BadLine_BadLine, kf_kit_BadLine_BadName, kf_kit_BadLine_BadPlace, kf_kit_BadLine_BadRule, kf_kit_BadLine_BadWindow, kf_kit_BadLine_NoAnswer, kf_kit_BadLine_NoMove, kf_kit_BadLine_Silent, kf_kit_BadLine_SizeMismatch, kf_kit_BadLine_TooMany, kf_kit_BadLine_Twice, kf_kit_BadLine_UnknownNote, kf_kit_BadLine_UnknownPair, kf_kitT_BadLine_ValueError, kf_ec_BadName, kf_nf_BadName_name, kf_exm_BadName_VoiceError, kf_kit_BadName_BadAhead, kf_kit_BadName_BadLine, kf_kit_BadName_BadName, kf_kit_BadName_BadPlace, kf_kit_BadName_BadRule, kf_kit_BadName_BadWindow, kf_kit_BadName_NoAnswer, kf_kit_BadName_NoMove, kf_kit_BadName_Silent, kf_kit_BadName_SizeMismatch, kf_kit_BadName_TooMany, kf_kit_BadName_Twice, kf_kit_BadName_UnknownNote, kf_kit_BadName_UnknownPair, kf_kitT_BadName_ValueError, kf_ec_BadPlace, kf_nf_BadPlace_place, kf_exm_BadPlace_VoiceError, kf_kit_BadPlace_BadAhead, kf_kit_BadPlace_BadLine, kf_kit_BadPlace_BadName, kf_kit_BadPlace_BadPlace, kf_kit_BadPlace_BadRule, kf_kit_BadPlace_BadWindow, kf_kit_BadPlace_NoAnswer, kf_kit_BadPlace_NoMove, kf_kit_BadPlace_Silent, kf_kit_BadPlace_SizeMismatch, kf_kit_BadPlace_TooMany, kf_kit_BadPlace_Twice, kf_kit_BadPlace_UnknownNote, kf_kit_BadPlace_UnknownPair, kf_kitT_BadPlace_ValueError, kf_ec_BadRule, kf_nf_BadRule_rule, kf_exm_BadRule_VoiceError, kf_kit_BadRule_BadAhead, kf_kit_BadRule_BadLine, kf_kit_BadRule_BadName, kf_kit_BadRule_BadPlace, kf_kit_BadRule_BadRule, kf_kit_BadRule_BadWindow, kf_kit_BadRule_NoAnswer, kf_kit_BadRule_NoMove, kf_kit_BadRule_Silent, kf_kit_BadRule_SizeMismatch, kf_kit_BadRule_TooMany, kf_kit_BadRule_Twice, kf_kit_BadRule_UnknownNote, kf_kit_BadRule_UnknownPair, kf_kitT_BadRule_ValueError, kf_ec_BadWindow, kf_exm_BadWindow_VoiceError, kf_kit_BadWindow_BadAhead, kf_kit_BadWindow_BadLine, kf_kit_BadWindow_BadName, kf_kit_BadWindow_BadPlace, kf_kit_BadWindow_BadRule, kf_kit_BadWindow_BadWindow, kf_kit_BadWindow_NoAnswer, kf_kit_BadWindow_NoMove, kf_kit_BadWindow_Silent, kf_kit_BadWindow_SizeMismatch, kf_kit_BadWindow_TooMany, kf_kit_BadWindow_Twice, kf_kit_BadWindow_UnknownNote, kf_kit_BadWindow_UnknownPair, kf_kitT_BadWindow_ValueError, kf_ec_NoAnswer, kf_exm_NoAnswer_VoiceError, kf_kit_NoAnswer_BadAhead, kf_kit_NoAnswer_BadLine, kf_kit_NoAnswer_BadName, kf_kit_NoAnswer_BadPlace, kf_kit_NoAnswer_BadRule, kf_kit_NoAnswer_BadWindow, kf_kit_NoAnswer_NoAnswer, kf_kit_NoAnswer_NoMove, kf_kit_NoAnswer_Silent, kf_kit_NoAnswer_SizeMismatch, kf_kit_NoAnswer_TooMany, kf_kit_NoAnswer_Twice, kf_kit_NoAnswer_UnknownNote, kf_kit_NoAnswer_UnknownPair, kf_kitT_NoAnswer_ValueError, kf_ec_NoMove, kf_exm_NoMove_VoiceError, kf_kit_NoMove_BadAhead, kf_kit_NoMove_BadLine, kf_kit_NoMove_BadName, kf_kit_NoMove_BadPlace, kf_kit_NoMove_BadRule, kf_kit_NoMove_BadWindow, kf_kit_NoMove_NoAnswer, kf_kit_NoMove_NoMove, kf_kit_NoMove_Silent, kf_kit_NoMove_SizeMismatch, kf_kit_NoMove_TooMany, kf_kit_NoMove_Twice, kf_kit_NoMove_UnknownNote, kf_kit_NoMove_UnknownPair, kf_kitT_NoMove_ValueError, kf_ec_Silent, kf_nf_Silent_voice, kf_exm_Silent_VoiceError, kf_kit_Silent_BadAhead, kf_kit_Silent_BadLine, kf_kit_Silent_BadName, kf_kit_Silent_BadPlace, kf_kit_Silent_BadRule, kf_kit_Silent_BadWindow, kf_kit_Silent_NoAnswer, kf_kit_Silent_NoMove, kf_kit_Silent_Silent, kf_kit_Silent_SizeMismatch, kf_kit_Silent_TooMany, kf_kit_Silent_Twice, kf_kit_Silent_UnknownNote, kf_kit_Silent_UnknownPair, kf_kitT_Silent_ValueError, kf_ec_SizeMismatch, kf_exm_SizeMismatch_VoiceError, kf_kit_SizeMismatch_BadAhead, kf_kit_SizeMismatch_BadLine, kf_kit_SizeMismatch_BadName, kf_kit_SizeMismatch_BadPlace, kf_kit_SizeMismatch_BadRule, kf_kit_SizeMismatch_BadWindow, kf_kit_SizeMismatch_NoAnswer, kf_kit_SizeMismatch_NoMove, kf_kit_SizeMismatch_Silent, kf_kit_SizeMismatch_SizeMismatch, kf_kit_SizeMismatch_TooMany, kf_kit_SizeMismatch_Twice, kf_kit_SizeMismatch_UnknownNote, kf_kit_SizeMismatch_UnknownPair, kf_kitT_SizeMismatch_ValueError, kf_ec_TooMany, kf_exm_TooMany_VoiceError, kf_kit_TooMany_BadAhead, kf_kit_TooMany_BadLine, kf_kit_TooMany_BadName, kf_kit_TooMany_BadPlace, kf_kit_TooMany_BadRule, kf_kit_TooMany_BadWindow, kf_kit_TooMany_NoAnswer, kf_kit_TooMany_NoMove, kf_kit_TooMany_Silent, kf_kit_TooMany_SizeMismatch, kf_kit_TooMany_TooMany, kf_kit_TooMany_Twice, kf_kit_TooMany_UnknownNote, kf_kit_TooMany_UnknownPair, kf_kitT_TooMany_ValueError, kf_ec_Twice, kf_nf_Twice_name, kf_exm_Twice_VoiceError, kf_kit_Twice_BadAhead, kf_kit_Twice_BadLine, kf_kit_Twice_BadName, kf_kit_Twice_BadPlace, kf_kit_Twice_BadRule, kf_kit_Twice_BadWindow, kf_kit_Twice_NoAnswer, kf_kit_Twice_NoMove, kf_kit_Twice_Silent, kf_kit_Twice_SizeMismatch, kf_kit_Twice_TooMany, kf_kit_Twice_Twice, kf_kit_Twice_UnknownNote, kf_kit_Twice_UnknownPair, kf_kitT_Twice_ValueError, kf_ec_UnknownNote, kf_nf_UnknownNote_note, kf_exm_UnknownNote_VoiceError, kf_kit_UnknownNote_BadAhead, kf_kit_UnknownNote_BadLine, kf_kit_UnknownNote_BadName, kf_kit_UnknownNote_BadPlace, kf_kit_UnknownNote_BadRule, kf_kit_UnknownNote_BadWindow, kf_kit_UnknownNote_NoAnswer, kf_kit_UnknownNote_NoMove, kf_kit_UnknownNote_Silent, kf_kit_UnknownNote_SizeMismatch, kf_kit_UnknownNote_TooMany, kf_kit_UnknownNote_Twice, kf_kit_UnknownNote_UnknownNote, kf_kit_UnknownNote_UnknownPair, kf_kitT_UnknownNote_ValueError, kf_ec_UnknownPair, kf_nf_UnknownPair_pair, kf_exm_UnknownPair_VoiceError, kf_kit_UnknownPair_BadAhead, kf_kit_UnknownPair_BadLine, kf_kit_UnknownPair_BadName, kf_kit_UnknownPair_BadPlace, kf_kit_UnknownPair_BadRule, kf_kit_UnknownPair_BadWindow, kf_kit_UnknownPair_NoAnswer, kf_kit_UnknownPair_NoMove, kf_kit_UnknownPair_Silent, kf_kit_UnknownPair_SizeMismatch, kf_kit_UnknownPair_TooMany, kf_kit_UnknownPair_Twice, kf_kit_UnknownPair_UnknownNote, kf_kit_UnknownPair_UnknownPair, kf_kitT_UnknownPair_ValueError⟩, ?_⟩
  refine ⟨fd_law, fun s v => FunD.bindsA (ps := ["_law_script"]) F_un_law (fun _ _ _ _ _ _ us hl => match us, hl with | [_], _ => rfl) s [v] rfl, fun base _ _ => ?_⟩
  have X_BadAhead : Xc P w K mg base "BadAhead" "ahead" (ga K "BadAhead") := ⟨k_oex_BadAhead, g_BadAhead, k_nf_BadAhead_ahead, _, fd_BadAhead, He.eqO_ok (He.ba k_xin_BadAhead).1, of_decide_eq_true (He.ba k_xin_BadAhead).2, ok_BadAhead Fun_BadAhead, b_BadAhead⟩
  have X_BadLine : Xc P w K mg base "BadLine" "number" (ga K "BadLine") := ⟨k_oex_BadLine, g_BadLine, k_nf_BadLine_number, _, fd_BadLine, He.eqO_ok (He.ba k_xin_BadLine).1, of_decide_eq_true (He.ba k_xin_BadLine).2, ok_BadLine Fun_BadLine, b_BadLine⟩
  have X_BadName : Xc P w K mg base "BadName" "name" (ga K "BadName") := ⟨k_oex_BadName, g_BadName, k_nf_BadName_name, _, fd_BadName, He.eqO_ok (He.ba k_xin_BadName).1, of_decide_eq_true (He.ba k_xin_BadName).2, ok_BadName Fun_BadName, b_BadName⟩
  have X_BadPlace : Xc P w K mg base "BadPlace" "place" (ga K "BadPlace") := ⟨k_oex_BadPlace, g_BadPlace, k_nf_BadPlace_place, _, fd_BadPlace, He.eqO_ok (He.ba k_xin_BadPlace).1, of_decide_eq_true (He.ba k_xin_BadPlace).2, ok_BadPlace Fun_BadPlace, b_BadPlace⟩
  have X_BadRule : Xc P w K mg base "BadRule" "rule" (ga K "BadRule") := ⟨k_oex_BadRule, g_BadRule, k_nf_BadRule_rule, _, fd_BadRule, He.eqO_ok (He.ba k_xin_BadRule).1, of_decide_eq_true (He.ba k_xin_BadRule).2, ok_BadRule Fun_BadRule, b_BadRule⟩
  have X_BadWindow : Xo K mg "BadWindow" (ga K "BadWindow") := xoB_ok g_BadWindow k_xo_BadWindow
  have X_NoAnswer : Xo K mg "NoAnswer" (ga K "NoAnswer") := xoB_ok g_NoAnswer k_xo_NoAnswer
  have X_NoMove : Xo K mg "NoMove" (ga K "NoMove") := xoB_ok g_NoMove k_xo_NoMove
  have X_Silent : Xc P w K mg base "Silent" "voice" (ga K "Silent") := ⟨k_oex_Silent, g_Silent, k_nf_Silent_voice, _, fd_Silent, He.eqO_ok (He.ba k_xin_Silent).1, of_decide_eq_true (He.ba k_xin_Silent).2, ok_Silent Fun_Silent, b_Silent⟩
  have X_SizeMismatch : Xo K mg "SizeMismatch" (ga K "SizeMismatch") := xoB_ok g_SizeMismatch k_xo_SizeMismatch
  have X_TooMany : Xo K mg "TooMany" (ga K "TooMany") := xoB_ok g_TooMany k_xo_TooMany
  have X_Twice : Xc P w K mg base "Twice" "name" (ga K "Twice") := ⟨k_oex_Twice, g_Twice, k_nf_Twice_name, _, fd_Twice, He.eqO_ok (He.ba k_xin_Twice).1, of_decide_eq_true (He.ba k_xin_Twice).2, ok_Twice Fun_Twice, b_Twice⟩
  have X_UnknownNote : Xc P w K mg base "UnknownNote" "note" (ga K "UnknownNote") := ⟨k_oex_UnknownNote, g_UnknownNote, k_nf_UnknownNote_note, _, fd_UnknownNote, He.eqO_ok (He.ba k_xin_UnknownNote).1, of_decide_eq_true (He.ba k_xin_UnknownNote).2, ok_UnknownNote Fun_UnknownNote, b_UnknownNote⟩
  have X_UnknownPair : Xc P w K mg base "UnknownPair" "pair" (ga K "UnknownPair") := ⟨k_oex_UnknownPair, g_UnknownPair, k_nf_UnknownPair_pair, _, fd_UnknownPair, He.eqO_ok (He.ba k_xin_UnknownPair).1, of_decide_eq_true (He.ba k_xin_UnknownPair).2, ok_UnknownPair Fun_UnknownPair, b_UnknownPair⟩
  have ok1__law_cell := ok__law_cell (P := P) (w := w) (mg := mg) (base := base) Fun__law_cell z_len
  have F__law_cell : Fx P w K mg base 1 "_law_cell" ["_law_script", "_law_k"] (spO K 2 (relF (F__law_cell K))) := ⟨_, fd__law_cell, ok1__law_cell, g__law_cell, F_un__law_cell.kp, b__law_cell⟩
  have ok1__law_digits := ok__law_digits (P := P) (w := w) (mg := mg) (base := base) Fun__law_digits F__law_cell z_int z_range
  have F__law_digits : Fx P w K mg base 2 "_law_digits" ["_law_script", "_law_k", "_law_count"] (spO K 3 (relF (F__law_digits K))) := ⟨_, fd__law_digits, ok1__law_digits, g__law_digits, F_un__law_digits.kp, b__law_digits⟩
  have ok1__law_names := ok__law_names (P := P) (w := w) (mg := mg) (base := base) Fun__law_names F__law_digits z_int z_range
  have F__law_names : Fx P w K mg base 3 "_law_names" ["_law_script", "_law_k", "_law_count"] (spO K 3 (relF (F__law_names K))) := ⟨_, fd__law_names, ok1__law_names, g__law_names, F_un__law_names.kp, b__law_names⟩
  have ok1__law_bare := ok__law_bare (P := P) (w := w) (mg := mg) (base := base) Fun__law_bare X_BadWindow X_NoAnswer X_NoMove X_SizeMismatch X_TooMany z_ValueError z_isinstance z_range g_BadAhead g_BadLine g_BadName g_BadPlace g_BadRule g_BadWindow g_NoAnswer g_NoMove g_Silent g_SizeMismatch g_TooMany g_Twice g_UnknownNote g_UnknownPair g_VoiceError
  have F__law_bare : Fx P w K mg base 3 "_law_bare" ["_law_k"] (spO K 1 (relF (F__law_bare K))) := ⟨_, fd__law_bare, ok1__law_bare, g__law_bare, F_un__law_bare.kp, b__law_bare⟩
  have ok1__law_raised := ok__law_raised (P := P) (w := w) (mg := mg) (base := base) Fun__law_raised F__law_bare X_BadAhead X_BadLine X_BadName X_BadPlace X_BadRule X_Silent X_Twice X_UnknownNote X_UnknownPair z_ValueError z_isinstance z_range g_BadAhead g_BadLine g_BadName g_BadPlace g_BadRule g_BadWindow g_NoAnswer g_NoMove g_Silent g_SizeMismatch g_TooMany g_Twice g_UnknownNote g_UnknownPair g_VoiceError
  have F__law_raised : Fx P w K mg base 4 "_law_raised" ["_law_k", "_law_name", "_law_number"] (spO K 3 (relF (F__law_raised K))) := ⟨_, fd__law_raised, ok1__law_raised, g__law_raised, F_un__law_raised.kp, b__law_raised⟩
  have ok1_law := ok_law (P := P) (w := w) (mg := mg) (base := base) Fun_law F__law_cell F__law_names F__law_raised z_int z_range
  exact ok1_law
end Pf
open PySem PySem.W PySem.Calls PyProof.Rows
theorem PySem.Challenge.cw_lookvoice_k48_errors_holds : PySem.Challenge.rw_lookvoice_k48_errors.Holds := by
  w_on; o_law
  refine HandSHeadRun.head_any (r := OpenLaw.row PySem.Challenge.rw_lookvoice_k48_errors) (q := view (OpenLaw.row PySem.Challenge.rw_lookvoice_k48_errors).prog [22]) (H := Pf.hk) (ob := Pf.ob) (M := 6000) (loose := Pf.loose) (d := HandSHeadRun.topDef (OpenLaw.row PySem.Challenge.rw_lookvoice_k48_errors).prog 22) (kwd := []) Pf.ob_eq
    (by kernel_rfl) (fun s => by kernel_rfl) Pf.run (by kernel_rfl) (by kernel_rfl) (by kernel_rfl) (by rfl) (by first | assumption | decide +kernel) (by decide +kernel) ⟨rfl, rfl, rfl, rfl, rfl, by decide +kernel⟩ ?hw ?hc
  case hw => w_witness2
  case hc =>
    refine L2.walk_ofE (l := PySem.Challenge.rw_lookvoice_k48_errors) (n := 63) (k := 5) (x := "_law_script") (CX := L2.CX0) rfl (by decide) (by kernel_rfl) ⟨rfl, by decide, by decide⟩ ?F (fun _ _ _ _ z => z)
    intro w mg fa h Y G hmg0
    obtain ⟨K, KX, c⟩ := Y
    have hmg : mg ("law" : PySem.Str) = some (.ref fa) := by
      have e : (HandSHeadRun.topDef (OpenLaw.row PySem.Challenge.rw_lookvoice_k48_errors).prog 22).name = ("law" : PySem.Str) := by kernel_rfl
      rw [← e]
      exact hmg0
    obtain ⟨kf, fd, hb, hF⟩ := Pf.facts (P := (PySem.Challenge.rw_lookvoice_k48_errors).prog) (w := w) KX G hmg c
    exact ⟨K, fd, fun vs H Q _ => Lv.spO K 1 (Lv.relF (Pf.F_law K)) vs H Q L2.E0, KX, hb, fun H a ns hl _ hS => Lv.law_sp (Pf.law_holds kf ns hl) hS, fun base h1 h2 => Lv.fn_no (hF base h1 h2)⟩
