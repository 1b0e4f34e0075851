import PyProof.Rows.All
import Wide.All
import OpenK.AllK
import Wide.FinOn
import HandS.ForMost
import HandS.Evl
import HandS.Exc
import HandS.TryOnly
import HandS.ExcOwn
import HandS.WordsExc
import HandS.Deep
import HandS.IsInst
import HandS.TupAny
import HandS.TupMul
import HandS.HotCalls
import HandS.ExcInit
import HandS.ExcIs
import HandS.ExcField
import HandS.Property
import KE.KExcIs
import HandS.Head0
import HandS.Head1
import HandS.Head2
import HandS.HeadEnd
import HandS.HeadHook1
import HandS.HeadHook2
import HandS.HeadHook3
import HandS.HeadHook4
import HandS.HeadNt
import HandS.Zip
import HandS.Dict
import HandS.More
import PySem.Challenge.RW_lookvoice_k01_relation_rows
set_option Elab.async false
set_option linter.all false
set_option maxRecDepth 100000
set_option maxHeartbeats 8000000
/-! Lv: data as trees over the layer's heap -/
namespace Lv
open PySem L2
open Evl (Ex)

/-- data as a tree; any v: exactly the value v -/
inductive D where
  | non | bl (b : Bool) | int (i : Int) | str (s : Str)
  | tup (xs : List D) | lst (xs : List D)
  | obj (C : Addr) (fs : List (Str × D))
  | scr (ns : List Int)
  | xdc (fs : List (Str × D))
  | dik (es : List (L2.Key × D))
  | dit (es : List (List L2.Key × D))
  | any (v : V)

abbrev Ro := List (Option D)
abbrev Cs := List (Addr × D)

mutual
/-- in the heap G the value v is the data d -/
inductive Rep (K : PySem.W.Frag) (G : Hp) : V → D → Prop
  | non : Rep K G .non .non
  | bl (b : Bool) : Rep K G (.bl b) (.bl b)
  | int (i : Int) : Rep K G (.int i) (.int i)
  | str (s : Str) : Rep K G (.str s) (.str s)
  | tup {a : Addr} {vs : List V} {ds : List D} : SqT K G a vs → RepL K G vs ds → Rep K G (.ref a) (.tup ds)
  | lst {a : Addr} {vs : List V} {ds : List D} : G a = some (.lst vs) → RepL K G vs ds → Rep K G (.ref a) (.lst ds)
  | scr {a : Addr} {ns : List Int} : SqL K G a (ns.map V.int) → Rep K G (.ref a) (.scr ns)
  | obj {a C dx : Addr} {vs : List (Str × V)} {fs : List (Str × D)} : G a = some (.ins C dx vs) → RepF K G vs fs → Rep K G (.ref a) (.obj C fs)
  | dik {a : Addr} {vs : List (L2.Key × V)} {ds : List (L2.Key × D)} : G a = some (.dK vs) → vs.map Prod.fst = ds.map Prod.fst → RepL K G (vs.map Prod.snd) (ds.map Prod.snd) → Rep K G (.ref a) (.dik ds)
  | dit {a : Addr} {vs : List (List L2.Key × V)} {ds : List (List L2.Key × D)} : G a = some (.dT vs) → vs.map Prod.fst = ds.map Prod.fst → RepL K G (vs.map Prod.snd) (ds.map Prod.snd) → Rep K G (.ref a) (.dit ds)
  | any (v : V) : Rep K G v (.any v)
inductive RepL (K : PySem.W.Frag) (G : Hp) : List V → List D → Prop
  | nil : RepL K G [] []
  | cons {v : V} {vs : List V} {d : D} {ds : List D} : Rep K G v d → RepL K G vs ds → RepL K G (v :: vs) (d :: ds)
inductive RepF (K : PySem.W.Frag) (G : Hp) : List (Str × V) → List (Str × D) → Prop
  | nil : RepF K G [] []
  | cons {f : Str} {v : V} {vs : List (Str × V)} {d : D} {ds : List (Str × D)} : Rep K G v d → RepF K G vs ds → RepF K G ((f, v) :: vs) ((f, d) :: ds)
end

section
variable {K : PySem.W.Frag} {G G2 H H2 H3 G3 : Hp}
mutual
theorem Rep.mono (x : Ex G G2) : ∀ {v : V} {d : D}, Rep K G v d → Rep K G2 v d
  | _, _, .non => .non
  | _, _, .bl b => .bl b
  | _, _, .int i => .int i
  | _, _, .str s => .str s
  | _, _, .tup h r => .tup (Evl.ex_t x h) (RepL.mono x r)
  | _, _, .lst h r => .lst (x _ _ h) (RepL.mono x r)
  | _, _, .scr h => .scr (Evl.ex_l x h)
  | _, _, .obj h r => .obj (x _ _ h) (RepF.mono x r)
  | _, _, .dik h k r => .dik (x _ _ h) k (RepL.mono x r)
  | _, _, .dit h k r => .dit (x _ _ h) k (RepL.mono x r)
  | _, _, .any v => .any v
theorem RepL.mono (x : Ex G G2) : ∀ {vs : List V} {ds : List D}, RepL K G vs ds → RepL K G2 vs ds
  | _, _, .nil => .nil
  | _, _, .cons h r => .cons (Rep.mono x h) (RepL.mono x r)
theorem RepF.mono (x : Ex G G2) : ∀ {vs : List (Str × V)} {ds : List (Str × D)}, RepF K G vs ds → RepF K G2 vs ds
  | _, _, .nil => .nil
  | _, _, .cons h r => .cons (Rep.mono x h) (RepF.mono x r)
end
theorem RepL.length : ∀ {vs : List V} {ds : List D}, RepL K G vs ds → vs.length = ds.length
  | _, _, .nil => rfl
  | _, _, .cons _ r => by rw [List.length_cons, List.length_cons, RepL.length r]
theorem RepL.get : ∀ {vs : List V} {ds : List D} {i : Nat} {d : D}, RepL K G vs ds → ds[i]? = some d → ∃ v, vs[i]? = some v ∧ Rep K G v d
  | _, _, _, _, .nil, e => by simp at e
  | _, _, 0, _, .cons h _, e => by simp at e; subst e; exact ⟨_, rfl, h⟩
  | _, _, i + 1, d, .cons _ r, e => by
    obtain ⟨u, h1, h2⟩ := RepL.get (i := i) (d := d) r (by simpa using e)
    exact ⟨u, by simpa using h1, h2⟩
theorem RepL.getV : ∀ {vs : List V} {ds : List D} {i : Nat} {v : V}, RepL K G vs ds → vs[i]? = some v → ∃ d, ds[i]? = some d ∧ Rep K G v d
  | _, _, _, _, .nil, e => by simp at e
  | _, _, 0, _, .cons h _, e => by simp at e; subst e; exact ⟨_, rfl, h⟩
  | _, _, i + 1, d, .cons _ r, e => by
    obtain ⟨u, h1, h2⟩ := RepL.getV (i := i) (v := d) r (by simpa using e)
    exact ⟨u, by simpa using h1, h2⟩
theorem RepL.append : ∀ {vs us : List V} {ds es : List D}, RepL K G vs ds → RepL K G us es → RepL K G (vs ++ us) (ds ++ es)
  | _, _, _, _, .nil, s => s
  | _, _, _, _, .cons h r, s => .cons h (RepL.append r s)
theorem RepL.one {v : V} {d : D} (h : Rep K G v d) : RepL K G [v] [d] := .cons h .nil
theorem RepL.take : ∀ {vs : List V} {ds : List D} (n : Nat), RepL K G vs ds → RepL K G (vs.take n) (ds.take n)
  | _, _, 0, _ => by simp; exact .nil
  | _, _, _ + 1, .nil => by simp; exact .nil
  | _, _, n + 1, .cons h r => .cons h (RepL.take n r)
theorem RepL.drop : ∀ {vs : List V} {ds : List D} (n : Nat), RepL K G vs ds → RepL K G (vs.drop n) (ds.drop n)
  | _, _, 0, r => r
  | _, _, _ + 1, .nil => by simp; exact .nil
  | _, _, n + 1, .cons _ r => RepL.drop n r
theorem RepL.set {v : V} {d : D} (h : Rep K G v d) : ∀ {vs : List V} {ds : List D} (i : Nat), RepL K G vs ds → RepL K G (vs.set i v) (ds.set i d)
  | _, _, _, .nil => .nil
  | _, _, 0, .cons _ t => .cons h t
  | _, _, i + 1, .cons q t => .cons q (RepL.set h i t)
theorem RepL.eraseIdx : ∀ {vs : List V} {ds : List D} (i : Nat), RepL K G vs ds → RepL K G (vs.eraseIdx i) (ds.eraseIdx i)
  | _, _, _, .nil => .nil
  | _, _, 0, .cons _ t => t
  | _, _, i + 1, .cons q t => .cons q (RepL.eraseIdx i t)
theorem RepL.reverse : ∀ {vs : List V} {ds : List D}, RepL K G vs ds → RepL K G vs.reverse ds.reverse
  | _, _, .nil => .nil
  | _, _, .cons h r => by
    rw [List.reverse_cons, List.reverse_cons]
    exact (RepL.reverse r).append (.one h)
theorem RepF.lookup : ∀ {vs : List (Str × V)} {ds : List (Str × D)} {f : Str} {d : D}, RepF K G vs ds → ds.lookup f = some d → ∃ v, vs.lookup f = some v ∧ Rep K G v d
  | _, _, _, _, .nil, e => by cases e
  | _, _, f, d, .cons (f := g) h r, e => by
    rw [List.lookup_cons] at e ⊢
    cases hg : f == g with
    | true =>
      rw [hg] at e
      cases e
      exact ⟨_, rfl, h⟩
    | false =>
      rw [hg] at e
      exact RepF.lookup r e
theorem RepF.lookup_none : ∀ {vs : List (Str × V)} {ds : List (Str × D)} {f : Str}, RepF K G vs ds → ds.lookup f = none → vs.lookup f = none
  | _, _, _, .nil, e => rfl
  | _, _, f, .cons (f := g) h r, e => by
    rw [List.lookup_cons] at e ⊢
    cases hg : f == g with
    | true =>
      rw [hg] at e
      cases e
    | false =>
      rw [hg] at e
      exact RepF.lookup_none r e
theorem RepF.length : ∀ {vs : List (Str × V)} {ds : List (Str × D)}, RepF K G vs ds → vs.length = ds.length
  | _, _, .nil => rfl
  | _, _, .cons _ r => by rw [List.length_cons, List.length_cons, RepF.length r]
def putD (f : Str) (d : D) : List (Str × D) → List (Str × D)
  | [] => [(f, d)]
  | (g, x) :: r => if g = f then (g, d) :: r else (g, x) :: putD f d r

/-! ### from a state to the next -/
structure Nx (G H G2 H2 : Hp) : Prop where
  g : Ex G G2
  h : Ex H H2
  s : Ex G2 H2
  f : ∀ a o, G2 a = some o → G a = none → H a = none
theorem Nx.refl (s : Ex G H) : Nx G H G H := ⟨Ex.refl _, Ex.refl _, s, fun a o h n => by rw [h] at n; cases n⟩
theorem Nx.trans (a : Nx G H G2 H2) (b : Nx G2 H2 G3 H3) : Nx G H G3 H3 := ⟨a.g.trans b.g, a.h.trans b.h, b.s, fun x o e n => by
  cases h : G2 x with
  | none => exact Evl.fresh_back a.h (b.f x o e h)
  | some u => exact a.f x u h n⟩
/-- the heap alone grew -/
theorem Nx.grow (s : Ex G H) (e : Ex H H2) : Nx G H G H2 := ⟨Ex.refl _, e, s.trans e, fun a o h n => by rw [h] at n; cases n⟩
/-- a new pure object -/
theorem Nx.new {p : Addr} {o : HO} (s : Ex G H) (hp : H p = none) : Nx G H (upd G p o) (upd H p o) := by
  have gp : G p = none := Evl.fresh_back s hp
  refine ⟨Ex.new gp, Ex.new hp, fun a u e => ?_, fun a u e n => ?_⟩
  · by_cases h : a = p
    · subst h; rw [upd_same] at e ⊢; exact e
    · rw [upd_ne h] at e ⊢; exact s a u e
  · by_cases h : a = p
    · subst h; exact hp
    · rw [upd_ne h] at e; rw [e] at n; cases n
/-- a new object that is no pure one -/
theorem Nx.newc {p : Addr} {o : HO} (s : Ex G H) (hp : H p = none) : Nx G H G (upd H p o) := Nx.grow s (Ex.new hp)
/-- an object that stands in H alone becomes pure -/
theorem Nx.take {p : Addr} {o : HO} (n : Nx G H G2 H2) (hp : H p = none) (h2 : H2 p = some o) (g2 : G2 p = none) : Nx G H (upd G2 p o) H2 := by
  refine ⟨n.g.trans (Ex.new g2), n.h, fun a u e => ?_, fun a u e z => ?_⟩
  · by_cases h : a = p
    · subst h; rw [upd_same] at e; rw [h2]; exact e
    · rw [upd_ne h] at e; exact n.s a u e
  · by_cases h : a = p
    · subst h; exact hp
    · rw [upd_ne h] at e; exact n.f a u e z

/-! ### cells: what may change -/
def Cell (K : PySem.W.Frag) (G H : Hp) (a : Addr) : D → Prop
  | .lst ds => ∃ vs, H a = some (.lst vs) ∧ RepL K G vs ds
  | .obj C fs => ∃ dx vs, H a = some (.ins C dx vs) ∧ RepF K G vs fs
  | .xdc fs => ∃ vs, H a = some (.xd vs) ∧ RepF K G vs fs
  | .dik ds => ∃ vs, H a = some (.dK vs) ∧ vs.map Prod.fst = ds.map Prod.fst ∧ RepL K G (vs.map Prod.snd) (ds.map Prod.snd)
  | .dit ds => ∃ vs, H a = some (.dT vs) ∧ vs.map Prod.fst = ds.map Prod.fst ∧ RepL K G (vs.map Prod.snd) (ds.map Prod.snd)
  | _ => False
theorem Cell.mono {a : Addr} {d : D} (g : Ex G G2) (h : Ex H H2) (c : Cell K G H a d) : Cell K G2 H2 a d := by
  cases d with
  | lst ds => obtain ⟨vs, e, r⟩ := c; exact ⟨vs, h _ _ e, r.mono g⟩
  | obj C fs => obtain ⟨dx, vs, e, r⟩ := c; exact ⟨dx, vs, h _ _ e, r.mono g⟩
  | xdc fs => obtain ⟨vs, e, r⟩ := c; exact ⟨vs, h _ _ e, r.mono g⟩
  | dik ds => obtain ⟨vs, e, k, r⟩ := c; exact ⟨vs, h _ _ e, k, r.mono g⟩
  | dit ds => obtain ⟨vs, e, k, r⟩ := c; exact ⟨vs, h _ _ e, k, r.mono g⟩
  | _ => exact c.elim
theorem Cell.some {a : Addr} {d : D} (c : Cell K G H a d) : ∃ o, H a = some o := by
  cases d with
  | lst ds => obtain ⟨vs, e, r⟩ := c; exact ⟨_, e⟩
  | obj C fs => obtain ⟨dx, vs, e, r⟩ := c; exact ⟨_, e⟩
  | xdc fs => obtain ⟨vs, e, r⟩ := c; exact ⟨_, e⟩
  | dik ds => obtain ⟨vs, e, k, r⟩ := c; exact ⟨_, e⟩
  | dit ds => obtain ⟨vs, e, k, r⟩ := c; exact ⟨_, e⟩
  | _ => exact c.elim
structure Wl (K : PySem.W.Frag) (G H : Hp) (cs : Cs) : Prop where
  sub : Ex G H
  cell : ∀ c ∈ cs, G c.1 = none ∧ Cell K G H c.1 c.2
  nd : (cs.map (·.1)).Nodup
theorem Wl.step {cs : Cs} (w : Wl K G H cs) (n : Nx G H G2 H2) : Wl K G2 H2 cs := by
  refine ⟨n.s, fun c hc => ?_, w.nd⟩
  obtain ⟨g, k⟩ := w.cell c hc
  refine ⟨?_, k.mono n.g n.h⟩
  cases e : G2 c.1 with
  | none => rfl
  | some o =>
    obtain ⟨u, hu⟩ := k.some
    rw [n.f _ _ e g] at hu
    cases hu
/-- readable as d now: pure, or a cell -/
def RepC (K : PySem.W.Frag) (G : Hp) (cs : Cs) (v : V) (d : D) : Prop := Rep K G v d ∨ ∃ a, v = .ref a ∧ (a, d) ∈ cs
theorem RepC.mono {cs : Cs} {v : V} {d : D} (n : Nx G H G2 H2) (r : RepC K G cs v d) : RepC K G2 cs v d := by
  rcases r with r | r
  · exact .inl (r.mono n.g)
  · exact .inr r
theorem RepC.seqL {cs : Cs} {v : V} {ds : List D} (w : Wl K G H cs) (r : RepC K G cs v (.lst ds)) : ∃ a vs, v = .ref a ∧ H a = some (.lst vs) ∧ RepL K G vs ds := by
  rcases r with r | ⟨a, e, c⟩
  · cases r with
    | lst h r => exact ⟨_, _, rfl, w.sub _ _ h, r⟩
  · obtain ⟨_, vs, e2, r⟩ := w.cell _ c
    exact ⟨a, vs, e, e2, r⟩
theorem RepC.seqT {cs : Cs} {v : V} {ds : List D} (w : Wl K G H cs) (r : RepC K G cs v (.tup ds)) : ∃ a vs, v = .ref a ∧ SqT K H a vs ∧ RepL K G vs ds := by
  rcases r with r | ⟨a, e, c⟩
  · cases r with
    | tup h r => exact ⟨_, _, rfl, Evl.ex_t w.sub h, r⟩
  · exact (w.cell _ c).2.elim
theorem RepC.int {cs : Cs} {v : V} {i : Int} (w : Wl K G H cs) (r : RepC K G cs v (.int i)) : v = .int i := by
  rcases r with r | ⟨a, e, c⟩
  · cases r; rfl
  · exact (w.cell _ c).2.elim
theorem RepC.bl {cs : Cs} {v : V} {b : Bool} (w : Wl K G H cs) (r : RepC K G cs v (.bl b)) : v = .bl b := by
  rcases r with r | ⟨a, e, c⟩
  · cases r; rfl
  · exact (w.cell _ c).2.elim
theorem RepC.str {cs : Cs} {v : V} {s : Str} (w : Wl K G H cs) (r : RepC K G cs v (.str s)) : v = .str s := by
  rcases r with r | ⟨a, e, c⟩
  · cases r; rfl
  · exact (w.cell _ c).2.elim
theorem RepC.non {cs : Cs} {v : V} (w : Wl K G H cs) (r : RepC K G cs v .non) : v = .non := by
  rcases r with r | ⟨a, e, c⟩
  · cases r; rfl
  · exact (w.cell _ c).2.elim
theorem RepC.objC {cs : Cs} {v : V} {C : Addr} {fs : List (Str × D)} (w : Wl K G H cs) (r : RepC K G cs v (.obj C fs)) : ∃ a dx vs, v = .ref a ∧ H a = some (.ins C dx vs) ∧ RepF K G vs fs := by
  rcases r with r | ⟨a, e, c⟩
  · cases r with
    | obj h r => exact ⟨_, _, _, rfl, w.sub _ _ h, r⟩
  · obtain ⟨_, dx, vs, e2, r⟩ := w.cell _ c
    exact ⟨a, dx, vs, e, e2, r⟩

/-! ### slots -/
structure Env (K : PySem.W.Frag) (G : Hp) (σ : L2.St) (ρ : Ro) : Prop where
  len : σ.length = ρ.length
  at_ : ∀ (i : Nat) (d : D), ρ[i]? = some (some d) → ∃ v, σ[i]? = some (some v) ∧ Rep K G v d
theorem Env.mono {σ : L2.St} {ρ : Ro} (x : Ex G G2) (e : Env K G σ ρ) : Env K G2 σ ρ := ⟨e.len, fun i d h => by
  obtain ⟨v, h1, h2⟩ := e.at_ i d h
  exact ⟨v, h1, h2.mono x⟩⟩
theorem Env.set {σ : L2.St} {ρ : Ro} {v : V} {d : D} (e : Env K G σ ρ) (i : Nat) (r : Rep K G v d) : Env K G (σ.set i (some v)) (ρ.set i (some d)) := ⟨by rw [List.length_set, List.length_set, e.len], fun j x h => by
  by_cases hj : i = j
  · subst hj
    by_cases hl : i < ρ.length
    · rw [List.getElem?_set_self hl] at h
      cases h
      exact ⟨v, List.getElem?_set_self (by rw [e.len]; exact hl), r⟩
    · rw [List.getElem?_eq_none (by rw [List.length_set]; omega)] at h
      cases h
  · rw [List.getElem?_set_ne hj] at h ⊢
    exact e.at_ j x h⟩
theorem Env.setN {σ : L2.St} {ρ : Ro} {v : Option V} (e : Env K G σ ρ) (i : Nat) : Env K G (σ.set i v) (ρ.set i none) := ⟨by rw [List.length_set, List.length_set, e.len], fun j x h => by
  by_cases hj : i = j
  · subst hj
    by_cases hl : i < ρ.length
    · rw [List.getElem?_set_self hl] at h
      cases h
    · rw [List.getElem?_eq_none (by rw [List.length_set]; omega)] at h
      cases h
  · rw [List.getElem?_set_ne hj] at h ⊢
    exact e.at_ j x h⟩
def wipeD (ρ : Ro) : List Nat → Ro
  | [] => ρ
  | v :: vs => (wipeD ρ vs).set v none
theorem Env.wipe {σ : L2.St} {ρ : Ro} (e : Env K G σ ρ) : ∀ vs : List Nat, Env K G (wipe σ vs) (wipeD ρ vs)
  | [] => e
  | v :: vs => (Env.wipe e vs).setN v
/-- ρ tells no more than ρ2 -/
def le : Ro → Ro → Prop
  | [], [] => True
  | none :: r, _ :: s => le r s
  | some d :: r, x :: s => x = some d ∧ le r s
  | _, _ => False
theorem le.length : ∀ {r s : Ro}, le r s → r.length = s.length
  | [], [], _ => rfl
  | none :: r, _ :: s, h => by rw [List.length_cons, List.length_cons, le.length (r := r) (s := s) h]
  | some d :: r, x :: s, h => by rw [List.length_cons, List.length_cons, le.length (r := r) (s := s) h.2]
  | [], _ :: _, h => h.elim
  | none :: _, [], h => h.elim
  | some _ :: _, [], h => h.elim
theorem le.get : ∀ {r s : Ro} {i : Nat} {d : D}, le r s → r[i]? = some (some d) → s[i]? = some (some d)
  | [], [], _, _, _, e => by simp at e
  | none :: r, _ :: s, 0, d, h, e => by simp at e
  | none :: r, _ :: s, i + 1, d, h, e => by
    rw [List.getElem?_cons_succ] at e ⊢
    exact le.get (r := r) (s := s) h e
  | some x :: r, y :: s, 0, d, h, e => by
    rw [List.getElem?_cons_zero] at e ⊢
    rw [h.1]; exact e
  | some x :: r, y :: s, i + 1, d, h, e => by
    rw [List.getElem?_cons_succ] at e ⊢
    exact le.get (r := r) (s := s) h.2 e
  | [], _ :: _, _, _, h, _ => h.elim
  | none :: _, [], _, _, h, _ => h.elim
  | some _ :: _, [], _, _, h, _ => h.elim
theorem le.refl : ∀ r : Ro, le r r
  | [] => trivial
  | none :: r => le.refl r
  | some _ :: r => ⟨rfl, le.refl r⟩
theorem Env.le {σ : L2.St} {ρ ρ2 : Ro} (e : Env K G σ ρ2) (h : le ρ ρ2) : Env K G σ ρ := ⟨e.len.trans h.length.symm, fun i d q => e.at_ i d (h.get q)⟩

/-! ### what evaluates to what -/
def sc : V → D
  | .non => .non
  | .bl b => .bl b
  | .int i => .int i
  | .str s => .str s
  | v => .any v
theorem rep_sc (v : V) : Rep K G v (sc v) := by
  cases v <;> first | exact .non | exact .bl _ | exact .int _ | exact .str _ | exact .any _
def Ev (K : PySem.W.Frag) (te : TE) (ρ : Ro) (cs : Cs) (d : D) : Prop := ∀ G H σ, Wl K G H cs → Env K G σ ρ → ∀ Q : VK, (∀ v G2 H2, Nx G H G2 H2 → Rep K G2 v d → Q v H2) → te σ H Q
def EvR (K : PySem.W.Frag) (te : TE) (ρ : Ro) (cs : Cs) (d : D) : Prop := ∀ G H σ, Wl K G H cs → Env K G σ ρ → ∀ Q : VK, (∀ v G2 H2, Nx G H G2 H2 → RepC K G2 cs v d → Q v H2) → te σ H Q
/-- a new list -/
def EvN (K : PySem.W.Frag) (te : TE) (ρ : Ro) (cs : Cs) (ds : List D) : Prop := ∀ G H σ, Wl K G H cs → Env K G σ ρ → ∀ Q : VK, (∀ p vs G2 H2, Nx G H G2 H2 → H p = none → G2 p = none → H2 p = some (.lst vs) → RepL K G2 vs ds → Q (.ref p) H2) → te σ H Q
def EvT (K : PySem.W.Frag) (tt : TT) (ρ : Ro) (cs : Cs) (b : Bool) : Prop := ∀ G H σ, Wl K G H cs → Env K G σ ρ → ∀ Q : Bool → Hp → Prop, (∀ G2 H2, Nx G H G2 H2 → Q b H2) → tt σ H Q
def EvA (K : PySem.W.Frag) (ta : TA) (ρ : Ro) (cs : Cs) (ds : List D) : Prop := ∀ G H σ, Wl K G H cs → Env K G σ ρ → ∀ Q : List V → Hp → Prop, (∀ vs G2 H2, Nx G H G2 H2 → RepL K G2 vs ds → Q vs H2) → ta σ H Q
/-- arguments that are readable -/
inductive RepCL (K : PySem.W.Frag) (G : Hp) (cs : Cs) : List V → List D → Prop
  | nil : RepCL K G cs [] []
  | cons {v : V} {vs : List V} {d : D} {ds : List D} : RepC K G cs v d → RepCL K G cs vs ds → RepCL K G cs (v :: vs) (d :: ds)
theorem RepCL.mono {cs : Cs} (n : Nx G H G2 H2) : ∀ {vs : List V} {ds : List D}, RepCL K G cs vs ds → RepCL K G2 cs vs ds
  | _, _, .nil => .nil
  | _, _, .cons h r => .cons (h.mono n) (RepCL.mono n r)
def EvAR (K : PySem.W.Frag) (ta : TA) (ρ : Ro) (cs : Cs) (ds : List D) : Prop := ∀ G H σ, Wl K G H cs → Env K G σ ρ → ∀ Q : List V → Hp → Prop, (∀ vs G2 H2, Nx G H G2 H2 → RepCL K G2 cs vs ds → Q vs H2) → ta σ H Q
def EvO (K : PySem.W.Frag) (to : TO) (ρ : Ro) (cs : Cs) (o : Option Int) : Prop := ∀ G H σ, Wl K G H cs → Env K G σ ρ → ∀ Q : Option Int → Hp → Prop, (∀ G2 H2, Nx G H G2 H2 → Q o H2) → to σ H Q
end
end Lv

namespace Lv
open PySem L2
open Evl (Ex)
/-! ### data and the library's data -/
mutual
def toPy : D → PyData
  | .non => .none
  | .bl b => .bool b
  | .int i => .int i
  | .str s => .str s
  | .tup xs => .tuple (toPyL xs)
  | .lst xs => .list (toPyL xs)
  | .obj _ _ => .none
  | .scr _ => .none
  | .xdc _ => .none
  | .dik _ => .none
  | .dit _ => .none
  | .any _ => .none
def toPyL : List D → List PyData
  | [] => []
  | x :: xs => toPy x :: toPyL xs
end
mutual
def plD : D → Bool
  | .non => true
  | .bl _ => true
  | .int _ => true
  | .str s => PyData.strOk s
  | .tup xs => plL xs
  | .lst xs => plL xs
  | .obj _ _ => false
  | .scr _ => false
  | .xdc _ => false
  | .dik _ => false
  | .dit _ => false
  | .any _ => false
def plL : List D → Bool
  | [] => true
  | x :: xs => plD x && plL xs
end
mutual
def dpD : D → Nat
  | .tup xs => dpL xs + 1
  | .lst xs => dpL xs + 1
  | _ => 0
def dpL : List D → Nat
  | [] => 0
  | x :: xs => max (dpD x) (dpL xs)
end
/-- plain data of at most n floors -/
def ok (n : Nat) (d : D) : Bool := plD d && decide (dpD d ≤ n)
def okL (n : Nat) (ds : List D) : Bool := ds.all (ok n)
theorem plL_all : ∀ ds : List D, plL ds = ds.all plD
  | [] => by rw [plL]; rfl
  | d :: ds => by rw [plL, List.all_cons, plL_all ds]
theorem toPyL_map : ∀ ds : List D, toPyL ds = ds.map toPy
  | [] => by rw [toPyL]; rfl
  | d :: ds => by rw [toPyL, List.map_cons, toPyL_map ds]
theorem dpL_le {n : Nat} : ∀ {ds : List D}, dpL ds ≤ n ↔ ∀ d ∈ ds, dpD d ≤ n
  | [] => by rw [dpL]; simp
  | d :: ds => by
    rw [dpL, Nat.max_le, dpL_le (ds := ds)]
    simp
theorem okL_iff {n : Nat} {ds : List D} : okL n ds = true ↔ plL ds = true ∧ dpL ds ≤ n := by
  unfold okL ok
  rw [plL_all, dpL_le, List.all_eq_true, List.all_eq_true]
  constructor
  · intro h
    exact ⟨fun x hx => (Bool.and_eq_true_iff.mp (h x hx)).1, fun x hx => of_decide_eq_true (Bool.and_eq_true_iff.mp (h x hx)).2⟩
  · intro h x hx
    exact Bool.and_eq_true_iff.mpr ⟨h.1 x hx, decide_eq_true (h.2 x hx)⟩
theorem ok_lst {n : Nat} {ds : List D} : ok (n + 1) (.lst ds) = okL n ds := by
  rw [Bool.eq_iff_iff, okL_iff]
  unfold ok
  rw [plD, dpD, Bool.and_eq_true_iff]
  simp
theorem ok_tup {n : Nat} {ds : List D} : ok (n + 1) (.tup ds) = okL n ds := by
  rw [Bool.eq_iff_iff, okL_iff]
  unfold ok
  rw [plD, dpD, Bool.and_eq_true_iff]
  simp
theorem ok_int {n : Nat} {i : Int} : ok n (.int i) = true := by unfold ok; rw [plD, dpD] <;> simp
theorem ok_bl {n : Nat} {b : Bool} : ok n (.bl b) = true := by unfold ok; rw [plD, dpD] <;> simp
theorem ok_non {n : Nat} : ok n .non = true := by unfold ok; rw [plD, dpD] <;> simp
theorem ok_str {n : Nat} {s : Str} : ok n (.str s) = PyData.strOk s := by unfold ok; rw [plD, dpD] <;> simp
theorem okL_nil {n : Nat} : okL n [] = true := rfl
theorem okL_cons {n : Nat} {d : D} {ds : List D} : okL n (d :: ds) = (ok n d && okL n ds) := rfl
theorem okL_append {n : Nat} {ds es : List D} : okL n (ds ++ es) = (okL n ds && okL n es) := List.all_append
theorem okL_map {α : Type} {n : Nat} {f : α → D} {xs : List α} : okL n (xs.map f) = xs.all fun x => ok n (f x) := List.all_map
mutual
theorem depth_toPy : ∀ d : D, (toPy d).depth = dpD d
  | .non => by rw [toPy, dpD] <;> first | rfl | simp
  | .bl _ => by rw [toPy, dpD] <;> first | rfl | simp
  | .int _ => by rw [toPy, dpD] <;> first | rfl | simp
  | .str _ => by rw [toPy, dpD] <;> first | rfl | simp
  | .tup xs => by rw [toPy, dpD]; show PyData.depthAll (toPyL xs) + 1 = _; rw [depthL_toPy xs]
  | .lst xs => by rw [toPy, dpD]; show PyData.depthAll (toPyL xs) + 1 = _; rw [depthL_toPy xs]
  | .obj _ _ => by rw [toPy, dpD] <;> first | rfl | simp
  | .scr _ => by rw [toPy, dpD] <;> first | rfl | simp
  | .xdc _ => by rw [toPy, dpD] <;> first | rfl | simp
  | .dik _ => by rw [toPy, dpD] <;> first | rfl | simp
  | .dit _ => by rw [toPy, dpD] <;> first | rfl | simp
  | .any _ => by rw [toPy, dpD] <;> first | rfl | simp
theorem depthL_toPy : ∀ ds : List D, PyData.depthAll (toPyL ds) = dpL ds
  | [] => by rw [toPyL, dpL]; rfl
  | d :: ds => by rw [toPyL, dpL]; show max (toPy d).depth (PyData.depthAll (toPyL ds)) = _; rw [depth_toPy d, depthL_toPy ds]
end
mutual
theorem lay_toPy : ∀ d : D, plD d = true → (toPy d).canLay0 = true
  | .non, _ => by rw [toPy]; rfl
  | .bl _, _ => by rw [toPy]; rfl
  | .int _, _ => by rw [toPy]; rfl
  | .str s, h => by rw [toPy]; rw [plD] at h; exact h
  | .tup xs, h => by rw [toPy]; rw [plD] at h; exact layL_toPy xs h
  | .lst xs, h => by rw [toPy]; rw [plD] at h; exact layL_toPy xs h
  | .obj _ _, h => by rw [plD] at h; cases h
  | .scr _, h => by rw [plD] at h; cases h
  | .xdc _, h => by rw [plD] at h; cases h
  | .dik _, h => by rw [plD] at h; cases h
  | .dit _, h => by rw [plD] at h; cases h
  | .any _, h => by rw [plD] at h; cases h
theorem layL_toPy : ∀ ds : List D, plL ds = true → PyData.canLayAll0 (toPyL ds) = true
  | [], _ => by rw [toPyL]; rfl
  | d :: ds, h => by
    rw [plL, Bool.and_eq_true_iff] at h
    rw [toPyL]
    show ((toPy d).canLay0 && PyData.canLayAll0 (toPyL ds)) = true
    rw [lay_toPy d h.1, layL_toPy ds h.2]
    rfl
end
theorem shaped_of {n : Nat} {d : D} (hn : n ≤ 64) (h : ok n d = true) : SeqAt.shaped (toPy d) = true := by
  obtain ⟨h1, h2⟩ := Bool.and_eq_true_iff.mp h
  have h3 : dpD d ≤ n := of_decide_eq_true h2
  exact Bool.and_eq_true_iff.mpr ⟨lay_toPy d h1, decide_eq_true (by rw [depth_toPy]; omega)⟩
/-- == of data -/
def eqD (x y : D) : Bool := PyData.eqv (toPy x) (toPy y)
theorem eqD_int {i j : Int} : eqD (.int i) (.int j) = (i == j) := by unfold eqD; rw [toPy, toPy, PyData.eqv]
theorem eqD_str {i j : Str} : eqD (.str i) (.str j) = (i == j) := by unfold eqD; rw [toPy, toPy, PyData.eqv]
theorem eqD_bl {i j : Bool} : eqD (.bl i) (.bl j) = (i == j) := by unfold eqD; rw [toPy, toPy, PyData.eqv]
def eqL : List D → List D → Bool
  | [], [] => true
  | x :: xs, y :: ys => eqD x y && eqL xs ys
  | _, _ => false
theorem eqvAll_eqL : ∀ xs ys : List D, PyData.eqvAll (toPyL xs) (toPyL ys) = eqL xs ys
  | [], [] => by rw [toPyL, PyData.eqvAll]; rfl
  | [], y :: ys => by rw [toPyL, toPyL, PyData.eqvAll]; rfl
  | x :: xs, [] => by rw [toPyL, toPyL, PyData.eqvAll]; rfl
  | x :: xs, y :: ys => by rw [toPyL, toPyL, PyData.eqvAll, eqvAll_eqL xs ys]; rfl
theorem eqD_lst {xs ys : List D} : eqD (.lst xs) (.lst ys) = eqL xs ys := by unfold eqD; rw [toPy, toPy, PyData.eqv, eqvAll_eqL]
theorem eqD_tup {xs ys : List D} : eqD (.tup xs) (.tup ys) = eqL xs ys := by unfold eqD; rw [toPy, toPy, PyData.eqv, eqvAll_eqL]
/-- data of one kind: told apart by == -/
def Apart {α : Type} (f : α → D) : Prop := ∀ a b, eqD (f a) (f b) = true ↔ a = b
theorem Apart.dec {α : Type} [DecidableEq α] {f : α → D} (h : Apart f) (a b : α) : eqD (f a) (f b) = decide (a = b) := by
  rw [Bool.eq_iff_iff, h a b, decide_eq_true_iff]
theorem apart_int : Apart D.int := fun a b => by rw [eqD_int]; exact beq_iff_eq
theorem apart_str : Apart D.str := fun a b => by rw [eqD_str]; exact beq_iff_eq
theorem apart_bl : Apart D.bl := fun a b => by rw [eqD_bl]; exact beq_iff_eq
theorem Apart.list {α : Type} {f : α → D} (h : Apart f) : ∀ a b : List α, eqL (a.map f) (b.map f) = true ↔ a = b
  | [], [] => by simp [eqL]
  | [], _ :: _ => by simp [eqL]
  | _ :: _, [] => by simp [eqL]
  | x :: a, y :: b => by
    rw [List.map_cons, List.map_cons, eqL, Bool.and_eq_true_iff, h x y, Apart.list h a b]
    simp
theorem Apart.lst {α : Type} {f : α → D} (h : Apart f) : Apart fun a : List α => D.lst (a.map f) := fun a b => by rw [eqD_lst]; exact h.list a b
theorem Apart.tup {α : Type} {f : α → D} (h : Apart f) : Apart fun a : List α => D.tup (a.map f) := fun a b => by rw [eqD_tup]; exact h.list a b
theorem Apart.comp {α β : Type} {f : α → D} {g : β → α} (h : Apart f) (hg : ∀ a b, g a = g b → a = b) : Apart fun b => f (g b) := fun a b => by rw [h]; exact ⟨hg a b, fun e => by rw [e]⟩

section
variable {K : PySem.W.Frag} {G G2 H H2 H3 G3 : Hp}
mutual
theorem Rep.dp (s : Ex G H) : ∀ {v : V} {d : D}, Rep K G v d → plD d = true → Dp K H v (toPy d)
  | _, _, .non, _ => by rw [toPy]; exact .non
  | _, _, .bl b, _ => by rw [toPy]; exact .bl b
  | _, _, .int i, _ => by rw [toPy]; exact .int i
  | _, _, .str x, _ => by rw [toPy]; exact .str x
  | _, _, .tup h r, p => by rw [toPy]; rw [plD] at p; exact .tup (Evl.ex_t s h) (RepL.dp s r p)
  | _, _, .lst h r, p => by rw [toPy]; rw [plD] at p; exact .lst (.inl (.inl (s _ _ h))) (RepL.dp s r p)
  | _, _, .obj h r, p => by rw [plD] at p; cases p
  | _, _, .scr h, p => by rw [plD] at p; cases p
  | _, _, .dik h _ r, p => by rw [plD] at p; cases p
  | _, _, .dit h _ r, p => by rw [plD] at p; cases p
  | _, _, .any v, p => by rw [plD] at p; cases p
theorem RepL.dp (s : Ex G H) : ∀ {vs : List V} {ds : List D}, RepL K G vs ds → plL ds = true → DpAll K H vs (toPyL ds)
  | _, _, .nil, _ => by rw [toPyL]; exact .nil
  | _, _, .cons h r, p => by
    rw [plL, Bool.and_eq_true_iff] at p
    rw [toPyL]
    exact .cons (Rep.dp s h p.1) (RepL.dp s r p.2)
end
theorem RepC.dp {cs : Cs} {v : V} {d : D} (w : Wl K G H cs) (r : RepC K G cs v d) (p : plD d = true) : Dp K H v (toPy d) := by
  rcases r with r | ⟨a, rfl, c⟩
  · exact r.dp w.sub p
  · have c2 := (w.cell _ c).2
    cases d with
    | lst ds =>
      obtain ⟨vs, e, r⟩ := c2
      rw [toPy]
      rw [plD] at p
      exact .lst (.inl (.inl e)) (r.dp w.sub p)
    | obj C fs => rw [plD] at p; cases p
    | xdc fs => rw [plD] at p; cases p
    | dik fs => rw [plD] at p; cases p
    | dit fs => rw [plD] at p; cases p
    | _ => exact c2.elim
theorem ok_pl {n : Nat} {d : D} (h : ok n d = true) : plD d = true := (Bool.and_eq_true_iff.mp h).1

/-! ### structural rules -/
variable {ρ : Ro} {cs : Cs} {ta tb te tx : TE} {tt tu : TT} {d d' e x y z : D} {rr : R2}
theorem Ev.of (h : Ev K te ρ cs d) (e : d = d') : Ev K te ρ cs d' := e ▸ h
theorem EvT.of {b b' : Bool} (h : EvT K tt ρ cs b) (e : b = b') : EvT K tt ρ cs b' := e ▸ h
theorem EvN.of {ds ds' : List D} (h : EvN K te ρ cs ds) (e : ds = ds') : EvN K te ρ cs ds' := e ▸ h
theorem Ev.er (h : Ev K te ρ cs d) : EvR K te ρ cs d := fun G H σ w e Q q => h G H σ w e Q fun v G2 H2 n r => q v G2 H2 n (.inl r)
theorem EvN.ev {ds : List D} (h : EvN K te ρ cs ds) : Ev K te ρ cs (.lst ds) := fun G H σ w e Q q => h G H σ w e Q fun p vs G2 H2 n hp gp h2 r =>
  q (.ref p) _ H2 (n.take hp h2 gp) (.lst upd_same (r.mono (Ex.new gp)))
theorem EvN.er {ds : List D} (h : EvN K te ρ cs ds) : EvR K te ρ cs (.lst ds) := h.ev.er
theorem ev_var {i : Nat} (h : ρ[i]? = some (some d)) : Ev K (tVar i) ρ cs d := fun G H σ w e Q q => by
  obtain ⟨v, h1, h2⟩ := e.at_ i d h
  exact ⟨v, h1, q v G H (Nx.refl w.sub) h2⟩
theorem er_cell {i : Nat} {a : Addr} (h : ρ[i]? = some (some (.any (.ref a)))) (hc : (a, d) ∈ cs) : EvR K (tVar i) ρ cs d := fun G H σ w e Q q => by
  obtain ⟨v, h1, h2⟩ := e.at_ i _ h
  cases h2
  exact ⟨_, h1, q _ G H (Nx.refl w.sub) (.inr ⟨a, rfl, hc⟩)⟩
theorem ev_c {v : V} : Ev K (tC v) ρ cs (sc v) := fun G H σ w e Q q => q v G H (Nx.refl w.sub) (rep_sc v)
theorem ev_cint {i : Int} : Ev K (tC (.int i)) ρ cs (.int i) := ev_c
theorem ev_cstr {s : Str} : Ev K (tC (.str s)) ρ cs (.str s) := ev_c
theorem ev_cbl {b : Bool} : Ev K (tC (.bl b)) ρ cs (.bl b) := ev_c
theorem ev_cnon : Ev K (tC .non) ρ cs .non := ev_c
def OpD (K : PySem.W.Frag) (r : R2) (cs : Cs) (x y z : D) : Prop := ∀ G H vx vy, Wl K G H cs → RepC K G cs vx x → RepC K G cs vy y → ∀ Q : VK, (∀ v G2 H2, Nx G H G2 H2 → Rep K G2 v z → Q v H2) → r vx vy H Q
def OpN (K : PySem.W.Frag) (r : R2) (cs : Cs) (x y : D) (zs : List D) : Prop := ∀ G H vx vy, Wl K G H cs → RepC K G cs vx x → RepC K G cs vy y → ∀ Q : VK, (∀ p vs G2 H2, Nx G H G2 H2 → H p = none → G2 p = none → H2 p = some (.lst vs) → RepL K G2 vs zs → Q (.ref p) H2) → r vx vy H Q
theorem ev_op (ha : EvR K ta ρ cs x) (hb : EvR K tb ρ cs y) (hr : OpD K rr cs x y z) : Ev K (tOp rr ta tb) ρ cs z := fun G H σ w e Q q =>
  ha G H σ w e _ fun v G2 H2 n rv => hb G2 H2 σ (w.step n) (e.mono n.g) _ fun u G3 H3 n2 ru => hr G3 H3 v u ((w.step n).step n2) (rv.mono n2) ru Q fun z' G4 H4 n3 rz => q z' G4 H4 ((n.trans n2).trans n3) rz
theorem en_op {zs : List D} (ha : EvR K ta ρ cs x) (hb : EvR K tb ρ cs y) (hr : OpN K rr cs x y zs) : EvN K (tOp rr ta tb) ρ cs zs := fun G H σ w e Q q =>
  ha G H σ w e _ fun v G2 H2 n rv => hb G2 H2 σ (w.step n) (e.mono n.g) _ fun u G3 H3 n2 ru => hr G3 H3 v u ((w.step n).step n2) (rv.mono n2) ru Q fun p vs G4 H4 n3 hp gp h4 rz => q p vs G4 H4 ((n.trans n2).trans n3) (Evl.fresh_back (n.h.trans n2.h) hp) gp h4 rz
theorem opD_val {v : V} (h : ∀ G H vx vy, Wl K G H cs → RepC K G cs vx x → RepC K G cs vy y → ∀ Q : VK, Q v H → rr vx vy H Q) : OpD K rr cs x y (sc v) := fun G H vx vy w rx ry Q q =>
  h G H vx vy w rx ry Q (q v G H (Nx.refl w.sub) (rep_sc v))
theorem ev_un {ru : V → Hp → VK → Prop} {i : Int} {g : Int → V} (ha : Ev K ta ρ cs (.int i)) : Ev K (tUn (rU g) ta) ρ cs (sc (g i)) := fun G H σ w e Q q =>
  ha G H σ w e _ fun v G2 H2 n rv => by
    cases rv
    exact ⟨i, rfl, q _ G2 H2 n (rep_sc _)⟩
theorem ev_neg {i : Int} (ha : Ev K ta ρ cs (.int i)) : Ev K (tUn (rU fun i => .int (-i)) ta) ρ cs (.int (-i)) := ev_un (ru := fun _ _ _ => True) ha

/-! ### tests -/
theorem et_test {b : Bool} (h : Ev K te ρ cs (.bl b)) : EvT K (tTest te) ρ cs b := fun G H σ w e Q q => h G H σ w e _ fun v G2 H2 n r => by
  cases r
  exact ⟨b, rfl, q G2 H2 n⟩
theorem et_B {b : Bool} (h : Ev K te ρ cs (.bl b)) : EvT K (tB te) ρ cs b := fun G H σ w e Q q => h G H σ w e _ fun v G2 H2 n r => by
  cases r
  exact ⟨b, rfl, q G2 H2 n⟩
theorem et_and {a b : Bool} (h1 : EvT K tt ρ cs a) (h2 : a = true → EvT K tu ρ cs b) : EvT K (tAnd tt tu) ρ cs (a && b) := fun G H σ w e Q q => h1 G H σ w e _ fun G2 H2 n => by
  cases a with
  | true => exact h2 rfl G2 H2 σ (w.step n) (e.mono n.g) Q fun G3 H3 n2 => q G3 H3 (n.trans n2)
  | false => exact q G2 H2 n
theorem et_or {a b : Bool} (h1 : EvT K tt ρ cs a) (h2 : a = false → EvT K tu ρ cs b) : EvT K (tOr tt tu) ρ cs (a || b) := fun G H σ w e Q q => h1 G H σ w e _ fun G2 H2 n => by
  cases a with
  | true => exact q G2 H2 n
  | false => exact h2 rfl G2 H2 σ (w.step n) (e.mono n.g) Q fun G3 H3 n2 => q G3 H3 (n.trans n2)
theorem et_not {a : Bool} (h1 : EvT K tt ρ cs a) : EvT K (tNot tt) ρ cs (!a) := fun G H σ w e Q q => h1 G H σ w e _ fun G2 H2 n => q G2 H2 n
theorem et_yes : EvT K tYes ρ cs true := fun G H σ w e Q q => q G H (Nx.refl w.sub)
theorem ev_andV {a b : Bool} (h1 : Ev K ta ρ cs (.bl a)) (h2 : a = true → Ev K tb ρ cs (.bl b)) : Ev K (tAndV ta tb) ρ cs (.bl (a && b)) := fun G H σ w e Q q => h1 G H σ w e _ fun v G2 H2 n r => by
  cases r
  refine ⟨a, rfl, ?_⟩
  cases a with
  | true => exact h2 rfl G2 H2 σ (w.step n) (e.mono n.g) Q fun v G3 H3 n2 r => q v G3 H3 (n.trans n2) r
  | false => exact q _ G2 H2 n (.bl _)
theorem ev_orV {a b : Bool} (h1 : Ev K ta ρ cs (.bl a)) (h2 : a = false → Ev K tb ρ cs (.bl b)) : Ev K (tOrV ta tb) ρ cs (.bl (a || b)) := fun G H σ w e Q q => h1 G H σ w e _ fun v G2 H2 n r => by
  cases r
  refine ⟨a, rfl, ?_⟩
  cases a with
  | true => exact q _ G2 H2 n (.bl _)
  | false => exact h2 rfl G2 H2 σ (w.step n) (e.mono n.g) Q fun v G3 H3 n2 r => q v G3 H3 (n.trans n2) r
theorem ev_notV {a : Bool} (h1 : Ev K ta ρ cs (.bl a)) : Ev K (tNotV ta) ρ cs (.bl (!a)) := fun G H σ w e Q q => h1 G H σ w e _ fun v G2 H2 n r => by
  cases r
  exact ⟨a, rfl, q _ G2 H2 n (.bl _)⟩
theorem ev_if {b : Bool} (h : EvT K tt ρ cs b) (h1 : b = true → Ev K ta ρ cs d) (h2 : b = false → Ev K tb ρ cs d) : Ev K (tIf tt ta tb) ρ cs d := fun G H σ w e Q q => h G H σ w e _ fun G2 H2 n => by
  cases b with
  | true => exact h1 rfl G2 H2 σ (w.step n) (e.mono n.g) Q fun v G3 H3 n2 r => q v G3 H3 (n.trans n2) r
  | false => exact h2 rfl G2 H2 σ (w.step n) (e.mono n.g) Q fun v G3 H3 n2 r => q v G3 H3 (n.trans n2) r
/-- a < b < c -/
theorem ev_chain {r' : R2} {tc : TE} {a b : Bool} {w' : D} (ha : EvR K ta ρ cs x) (hb : EvR K tb ρ cs y) (hr : OpD K rr cs x y (.bl a)) (hc : a = true → EvR K tc ρ cs w') (hr' : a = true → OpD K r' cs y w' (.bl b)) :
    Ev K (tChain rr r' ta tb tc) ρ cs (.bl (a && b)) := fun G H σ w e Q q =>
  ha G H σ w e _ fun v G2 H2 n rv => hb G2 H2 σ (w.step n) (e.mono n.g) _ fun u G3 H3 n2 ru => hr G3 H3 v u ((w.step n).step n2) (rv.mono n2) ru _ fun z' G4 H4 n3 rz => by
    cases rz
    refine ⟨a, rfl, ?_⟩
    cases a with
    | true => exact hc rfl G4 H4 σ (((w.step n).step n2).step n3) (((e.mono n.g).mono n2.g).mono n3.g) _ fun t G5 H5 n4 rt => hr' rfl G5 H5 u t ((((w.step n).step n2).step n3).step n4) ((ru.mono n3).mono n4) rt Q fun z2 G6 H6 n5 r6 => q z2 G6 H6 ((((n.trans n2).trans n3).trans n4).trans n5) r6
    | false => exact q _ G4 H4 ((n.trans n2).trans n3) (.bl _)

/-! ### arguments, displays -/
theorem ea_nil : EvA K tNil ρ cs [] := fun G H σ w e Q q => q [] G H (Nx.refl w.sub) .nil
theorem ea_cons {tr : TA} {ds : List D} (h : Ev K ta ρ cs d) (hr : EvA K tr ρ cs ds) : EvA K (tCons ta tr) ρ cs (d :: ds) := fun G H σ w e Q q =>
  h G H σ w e _ fun v G2 H2 n rv => hr G2 H2 σ (w.step n) (e.mono n.g) _ fun vs G3 H3 n2 rs => q (v :: vs) G3 H3 (n.trans n2) (.cons (rv.mono n2.g) rs)
theorem ear_nil : EvAR K tNil ρ cs [] := fun G H σ w e Q q => q [] G H (Nx.refl w.sub) .nil
theorem ear_cons {tr : TA} {ds : List D} (h : EvR K ta ρ cs d) (hr : EvAR K tr ρ cs ds) : EvAR K (tCons ta tr) ρ cs (d :: ds) := fun G H σ w e Q q =>
  h G H σ w e _ fun v G2 H2 n rv => hr G2 H2 σ (w.step n) (e.mono n.g) _ fun vs G3 H3 n2 rs => q (v :: vs) G3 H3 (n.trans n2) (.cons (rv.mono n2) rs)
theorem sz {n : Nat} (h : n ≤ 100000) : n ≤ sizeLine := Evl.sz_of h
theorem ev_tup {t : TA} {ds : List D} (h : EvA K t ρ cs ds) (hl : ds.length ≤ 100000) : Ev K (tTup t) ρ cs (.tup ds) := fun G H σ w e Q q =>
  h G H σ w e _ fun vs G2 H2 n rs => ⟨by rw [rs.length]; exact sz hl, fun p hp => q (.ref p) _ _ (n.trans (Nx.new n.s hp)) (.tup (.inl (.inl upd_same)) (rs.mono (Ex.new (Evl.fresh_back n.s hp))))⟩
theorem en_lst {t : TA} {ds : List D} (h : EvA K t ρ cs ds) (hl : ds.length ≤ 100000) : EvN K (tLst t) ρ cs ds := fun G H σ w e Q q =>
  h G H σ w e _ fun vs G2 H2 n rs => ⟨by rw [rs.length]; exact sz hl, fun p hp => q p vs G2 _ (n.trans (Nx.newc n.s hp)) (Evl.fresh_back n.h hp) (Evl.fresh_back n.s hp) upd_same rs⟩

/-! ### calls -/
def CallD (K : PySem.W.Frag) (r : List V → Hp → VK → Prop) (cs : Cs) (ds : List D) (z : D) : Prop := ∀ G H vs, Wl K G H cs → RepCL K G cs vs ds → ∀ Q : VK, (∀ v G2 H2, Nx G H G2 H2 → Rep K G2 v z → Q v H2) → r vs H Q
def CallN (K : PySem.W.Frag) (r : List V → Hp → VK → Prop) (cs : Cs) (ds : List D) (zs : List D) : Prop := ∀ G H vs, Wl K G H cs → RepCL K G cs vs ds → ∀ Q : VK, (∀ p us G2 H2, Nx G H G2 H2 → H p = none → G2 p = none → H2 p = some (.lst us) → RepL K G2 us zs → Q (.ref p) H2) → r vs H Q
theorem ev_cb {rc : List V → Hp → VK → Prop} {t : TA} {ds : List D} (h : EvAR K t ρ cs ds) (hr : CallD K rc cs ds z) : Ev K (tCB rc t) ρ cs z := fun G H σ w e Q q =>
  h G H σ w e _ fun vs G2 H2 n rs => hr G2 H2 vs (w.step n) rs Q fun v G3 H3 n2 r => q v G3 H3 (n.trans n2) r
theorem en_cb {rc : List V → Hp → VK → Prop} {t : TA} {ds zs : List D} (h : EvAR K t ρ cs ds) (hr : CallN K rc cs ds zs) : EvN K (tCB rc t) ρ cs zs := fun G H σ w e Q q =>
  h G H σ w e _ fun vs G2 H2 n rs => hr G2 H2 vs (w.step n) rs Q fun p us G3 H3 n2 hp gp h3 r => q p us G3 H3 (n.trans n2) (Evl.fresh_back n.h hp) gp h3 r
/-- a def's promise: called with ds it gives z and changes nothing -/
def SpD (K : PySem.W.Frag) (sp : Sp) (ds : List D) (z : D) : Prop := ∀ G H vs, Ex G H → RepL K G vs ds → ∀ (Q : VK) (E : XK), (∀ v G2 H2, Nx G H G2 H2 → Rep K G2 v z → Q v H2) → sp vs H Q E
def SpN (K : PySem.W.Frag) (sp : Sp) (ds : List D) (zs : List D) : Prop := ∀ G H vs, Ex G H → RepL K G vs ds → ∀ (Q : VK) (E : XK), (∀ p us G2 H2, Nx G H G2 H2 → H p = none → G2 p = none → H2 p = some (.lst us) → RepL K G2 us zs → Q (.ref p) H2) → sp vs H Q E
theorem SpN.sd {sp : Sp} {ds zs : List D} (h : SpN K sp ds zs) : SpD K sp ds (.lst zs) := fun G H vs s r Q E q => h G H vs s r Q E fun p us G2 H2 n hp gp h2 r2 =>
  q (.ref p) _ H2 (n.take hp h2 gp) (.lst upd_same (r2.mono (Ex.new gp)))
theorem ev_call {sp : Sp} {E : XK} {t : TA} {ds : List D} (h : EvA K t ρ cs ds) (hs : SpD K sp ds z) : Ev K (tCall sp [] E t) ρ cs z := fun G H σ w e Q q =>
  h G H σ w e _ fun vs G2 H2 n rs => by
    rw [List.append_nil]
    exact hs G2 H2 vs n.s rs Q E fun v G3 H3 n2 r => q v G3 H3 (n.trans n2) r
theorem en_call {sp : Sp} {E : XK} {t : TA} {ds zs : List D} (h : EvA K t ρ cs ds) (hs : SpN K sp ds zs) : EvN K (tCall sp [] E t) ρ cs zs := fun G H σ w e Q q =>
  h G H σ w e _ fun vs G2 H2 n rs => by
    rw [List.append_nil]
    exact hs G2 H2 vs n.s rs Q E fun p us G3 H3 n2 hp gp h3 r => q p us G3 H3 (n.trans n2) (Evl.fresh_back n.h hp) gp h3 r
theorem ev_fld {C : Addr} {f : Str} {fs : List (Str × D)} (h : EvR K ta ρ cs (.obj C fs)) (c : Cls K C) (na : NoAttr K C f) (hl : fs.lookup f = some z) : Ev K (tFld K ta f) ρ cs z := fun G H σ w e Q q =>
  h G H σ w e _ fun v G2 H2 n r => by
    obtain ⟨a, dx, vs, rfl, ha, rf⟩ := r.objC (w.step n)
    obtain ⟨u, hu, ru⟩ := rf.lookup hl
    exact ⟨a, C, dx, vs, u, rfl, ha, c, na, hu, q u G2 H2 n ru⟩
theorem ev_meth {C : Addr} {m : Str} {sp : Sp} {E : XK} {t : TA} {fs : List (Str × D)} {ds : List D} (ho : Ev K ta ρ cs (.obj C fs)) (hm : fs.lookup m = none) (h : EvA K t ρ cs ds) (hs : SpD K sp (.obj C fs :: ds) z) : Ev K (tMeth C m sp [] E ta t) ρ cs z := fun G H σ w e Q q =>
  ho G H σ w e _ fun v G2 H2 n r => by
    cases r with
    | obj hg rf =>
      refine ⟨_, _, _, rfl, n.s _ _ hg, rf.lookup_none hm, h G2 H2 σ (w.step n) (e.mono n.g) _ fun vs G3 H3 n2 rs => ?_⟩
      rw [List.append_nil]
      exact hs G3 H3 _ n2.s (.cons (.obj (n2.g _ _ hg) (rf.mono n2.g)) rs) Q E fun v G4 H4 n3 r4 => q v G4 H4 ((n.trans n2).trans n3) r4
theorem en_meth {C : Addr} {m : Str} {sp : Sp} {E : XK} {t : TA} {fs : List (Str × D)} {ds zs : List D} (ho : Ev K ta ρ cs (.obj C fs)) (hm : fs.lookup m = none) (h : EvA K t ρ cs ds) (hs : SpN K sp (.obj C fs :: ds) zs) : EvN K (tMeth C m sp [] E ta t) ρ cs zs := fun G H σ w e Q q =>
  ho G H σ w e _ fun v G2 H2 n r => by
    cases r with
    | obj hg rf =>
      refine ⟨_, _, _, rfl, n.s _ _ hg, rf.lookup_none hm, h G2 H2 σ (w.step n) (e.mono n.g) _ fun vs G3 H3 n2 rs => ?_⟩
      rw [List.append_nil]
      exact hs G3 H3 _ n2.s (.cons (.obj (n2.g _ _ hg) (rf.mono n2.g)) rs) Q E fun p us G4 H4 n3 hp gp h4 r4 => q p us G4 H4 ((n.trans n2).trans n3) (Evl.fresh_back (n.h.trans n2.h) hp) gp h4 r4

/-! ### parts of a slice -/
theorem eo_none : EvO K tNoPart ρ cs none := fun G H σ w e Q q => q G H (Nx.refl w.sub)
theorem eo_some {i : Int} (h : Ev K te ρ cs (.int i)) : EvO K (tPart te) ρ cs (some i) := fun G H σ w e Q q => h G H σ w e _ fun v G2 H2 n r => by
  cases r
  exact ⟨i, rfl, q G2 H2 n⟩
end
end Lv

namespace Lv
open PySem L2
open Evl (Ex)
/-! ### the operators, one reading each -/
def rStrAdd : R2 := fun x y H Q => ∃ i j, x = .str i ∧ y = .str j ∧ i.length + j.length ≤ sizeLine ∧ Q (.str (i ++ j)) H
def uAdd (K : PySem.W.Frag) : R2 := fun x y H Q => rI0 (fun i j => .int (i + j)) x y H Q ∨ (rCatA K x y H Q ∨ (rCat x y H Q ∨ rStrAdd x y H Q))
def rInT (K : PySem.W.Frag) (neg : Bool) : R2 := fun x y H Q => ∃ d ds, Dp K H x d ∧ Dp K H y (.tuple ds) ∧ SeqAt.shaped d = true ∧ SeqAt.shaped (.tuple ds) = true ∧ Q (.bl (if neg then !ds.any fun z => PyData.eqv z d else ds.any fun z => PyData.eqv z d)) H
def rInS (neg : Bool) : R2 := fun x y H Q => ∃ (c : Nat) (z : Str), x = .str ⟨#[c]⟩ ∧ y = .str z ∧ Q (.bl (if neg then !decide (c ∈ z.cps.toList) else decide (c ∈ z.cps.toList))) H
def uIn (K : PySem.W.Frag) : R2 := fun x y H Q => rInD K x y H Q ∨ (rInT K false x y H Q ∨ rInS false x y H Q)
def uNin (K : PySem.W.Frag) : R2 := fun x y H Q => rNotInD K x y H Q ∨ (rInT K true x y H Q ∨ rInS true x y H Q)
abbrev uLt : R2 := rI0 fun i j => .bl (decide (i < j))
abbrev uLe : R2 := rI0 fun i j => .bl (decide (i ≤ j))
abbrev uGt : R2 := rI0 fun i j => .bl (decide (j < i))
abbrev uGe : R2 := rI0 fun i j => .bl (decide (j ≤ i))
abbrev uSub : R2 := rI0 fun i j => .int (i - j)
abbrev uMul : R2 := rI CMul fun i j => .int (i * j)
abbrev uDiv : R2 := rI CDiv fun i j => .int (i / j)
abbrev uMod : R2 := rI (fun _ j => 0 < j) fun i j => .int (i % j)
abbrev uPow : R2 := rI CPow fun i j => .int (i ^ j.toNat)
def uIs : R2 := fun x y H Q => y = .non ∧ Q (.bl (decide (x = .non))) H
def uIsNot : R2 := fun x y H Q => y = .non ∧ Q (.bl (!decide (x = .non))) H
def uLen (K : PySem.W.Frag) : List V → Hp → VK → Prop := fun xs H Q => (∃ p ys, xs = [.ref p] ∧ (SqL K H p ys ∨ SqT K H p ys) ∧ Q (.int ys.length) H) ∨ ∃ x : Str, xs = [.str x] ∧ x.length ≤ sizeLine ∧ Q (.int x.length) H
def uList (K : PySem.W.Frag) : List V → Hp → VK → Prop := fun xs H Q => ∃ p ys, xs = [.ref p] ∧ (SqL K H p ys ∨ SqT K H p ys) ∧ ∀ l, H l = none → Q (.ref l) (upd H l (.lst ys))
def uTuple (K : PySem.W.Frag) : List V → Hp → VK → Prop := fun xs H Q => ∃ p ys, xs = [.ref p] ∧ ((SqL K H p ys ∧ ∀ l, H l = none → Q (.ref l) (upd H l (.tup ys))) ∨ (SqT K H p ys ∧ Q (.ref p) H))
def uInt : List V → Hp → VK → Prop := fun xs H Q => ∃ i, xs = [.int i] ∧ Q (.int i) H
def uSl (K : PySem.W.Frag) : V → Option Int → Option Int → Hp → VK → Prop := fun x l u H Q => rSlL K x l u H Q ∨ (rSlA K x l u H Q ∨ rSlS x l u H Q)
section
variable {X : Cx}
theorem op_uAdd : OpR X (binaryOp .Add) (uAdd X.K) := op_add.or (op_catA.or (op_cat.or op_add_str))
theorem op_inT (hu : X.A.units + 65 < cLine) : OpR X (compareOp .In) (rInT X.K false) := by
  intro pins s σ H x y v u Q I rx ry h
  obtain ⟨d, ds, hd, he, sd, se, q⟩ := h
  obtain ⟨as, r1⟩ := Dp.reads I d x v hd rx
  obtain ⟨bs, r2⟩ := Dp.reads I (.tuple ds) y u he ry
  exact SeqAt.in_tuple_reads r2 r1 (SeqAt.canLay_of_shaped se) (SeqAt.canLay_of_shaped sd) (PyProof.Rows.room_in_shaped sd hu) ⟨.bl _, H, I, rfl, q⟩
theorem op_ninT (hu : X.A.units + 65 < cLine) : OpR X (compareOp .NotIn) (rInT X.K true) := by
  intro pins s σ H x y v u Q I rx ry h
  obtain ⟨d, ds, hd, he, sd, se, q⟩ := h
  obtain ⟨as, r1⟩ := Dp.reads I d x v hd rx
  obtain ⟨bs, r2⟩ := Dp.reads I (.tuple ds) y u he ry
  exact SeqAt.notIn_tuple_reads r2 r1 (SeqAt.canLay_of_shaped se) (SeqAt.canLay_of_shaped sd) (PyProof.Rows.room_in_shaped sd hu) ⟨.bl _, H, I, rfl, q⟩
theorem op_uIn (hu : X.A.units + 65 < cLine) : OpR X (compareOp .In) (uIn X.K) := (op_inD hu).or ((op_inT hu).or op_in_sign)
theorem op_uNin (hu : X.A.units + 65 < cLine) : OpR X (compareOp .NotIn) (uNin X.K) := (op_notInD hu).or ((op_ninT hu).or op_notIn_sign)
theorem op_uIs : OpR X (compareOp .Is) uIs := op_isN
theorem op_uIsNot : OpR X (compareOp .IsNot) uIsNot := op_notN
theorem cr_len : CallR X (.builtin "len") (uLen X.K) := call_len_seq.or call_len_str
theorem cr_list : CallR X (.type "list") (uList X.K) := call_list_of
theorem cr_tuple : CallR X (.type "tuple") (uTuple X.K) := call_tuple_of
theorem cr_int : CallR X (.type "int") uInt := by
  intro pins s σ H xs vs Q I rx h
  obtain ⟨i, e, q⟩ := h
  exact call_int1 pins s σ H xs vs Q I rx (Or.inl ⟨i, e, q⟩)
theorem sl_u : SlR X (uSl X.K) := sl_list.or (sl_tupA.or sl_str)
end
/-! ### the operators on data -/
section
variable {K : PySem.W.Frag} {G G2 H H2 H3 G3 : Hp} {ρ : Ro} {cs : Cs} {ta tb te tx : TE} {tt tu : TT} {d d' e x y z : D}
theorem opd_I0 {g : Int → Int → V} {i j : Int} : OpD K (rI0 g) cs (.int i) (.int j) (sc (g i j)) := opD_val fun G H vx vy w rx ry Q q => ⟨i, j, rx.int w, ry.int w, q⟩
theorem opd_I {C : Int → Int → Prop} {g : Int → Int → V} {i j : Int} (hc : C i j) : OpD K (rI C g) cs (.int i) (.int j) (sc (g i j)) := opD_val fun G H vx vy w rx ry Q q => ⟨i, j, rx.int w, ry.int w, hc, q⟩
theorem opd_lt {i j : Int} : OpD K uLt cs (.int i) (.int j) (.bl (decide (i < j))) := opd_I0
theorem opd_le {i j : Int} : OpD K uLe cs (.int i) (.int j) (.bl (decide (i ≤ j))) := opd_I0
theorem opd_gt {i j : Int} : OpD K uGt cs (.int i) (.int j) (.bl (decide (j < i))) := opd_I0
theorem opd_ge {i j : Int} : OpD K uGe cs (.int i) (.int j) (.bl (decide (j ≤ i))) := opd_I0
theorem opd_sub {i j : Int} : OpD K uSub cs (.int i) (.int j) (.int (i - j)) := opd_I0
theorem opd_mul {i j : Int} (h : CMul i j) : OpD K uMul cs (.int i) (.int j) (.int (i * j)) := opd_I h
theorem opd_div {i j : Int} (h : 0 < j ∧ j < 1073741824) : OpD K uDiv cs (.int i) (.int j) (.int (i / j)) := opd_I h
theorem opd_mod {i j : Int} (h : 0 < j) : OpD K uMod cs (.int i) (.int j) (.int (i % j)) := opd_I h
theorem opd_pow {i j : Int} (h : CPow i j) : OpD K uPow cs (.int i) (.int j) (.int (i ^ j.toNat)) := opd_I h
theorem opd_add {i j : Int} : OpD K (uAdd K) cs (.int i) (.int j) (.int (i + j)) := opD_val (v := .int (i + j)) fun G H vx vy w rx ry Q q => .inl ⟨i, j, rx.int w, ry.int w, q⟩
theorem opd_addS {i j : Str} (h : i.length + j.length ≤ 100000) : OpD K (uAdd K) cs (.str i) (.str j) (.str (i ++ j)) := opD_val (v := .str (i ++ j)) fun G H vx vy w rx ry Q q => .inr (.inr (.inr ⟨i, j, rx.str w, ry.str w, sz h, q⟩))
theorem opd_addT {xs ys : List D} (h : xs.length + ys.length ≤ 100000) : OpD K (uAdd K) cs (.tup xs) (.tup ys) (.tup (xs ++ ys)) := fun G H vx vy w rx ry Q q => by
  obtain ⟨a, vs, rfl, ha, ra⟩ := rx.seqT w
  obtain ⟨b, us, rfl, hb, rb⟩ := ry.seqT w
  refine .inr (.inl ⟨a, b, vs, us, rfl, rfl, ha, hb, by rw [ra.length, rb.length]; exact sz h, fun e => ?_, fun e e2 => ?_, fun e e2 p hp => ?_⟩)
  · subst e
    cases ra
    rcases ry with ry | ⟨c, ec, hc⟩
    · exact q _ G H (Nx.refl w.sub) ry
    · exact (w.cell _ hc).2.elim
  · subst e2
    cases rb
    rw [List.append_nil] at q
    rcases rx with rx | ⟨c, ec, hc⟩
    · exact q _ G H (Nx.refl w.sub) rx
    · exact (w.cell _ hc).2.elim
  · exact q (.ref p) _ _ (Nx.new w.sub hp) (.tup (.inl (.inl upd_same)) ((ra.append rb).mono (Ex.new (Evl.fresh_back w.sub hp))))
theorem opn_addL {xs ys : List D} (h : xs.length + ys.length ≤ 100000) : OpN K (uAdd K) cs (.lst xs) (.lst ys) (xs ++ ys) := fun G H vx vy w rx ry Q q => by
  obtain ⟨a, vs, rfl, ha, ra⟩ := rx.seqL w
  obtain ⟨b, us, rfl, hb, rb⟩ := ry.seqL w
  exact .inr (.inr (.inl ⟨a, b, vs, us, rfl, rfl, ha, hb, by rw [ra.length, rb.length]; exact sz h, fun p hp => q p _ G _ (Nx.newc w.sub hp) hp (Evl.fresh_back w.sub hp) upd_same (ra.append rb)⟩))
theorem opd_ixScr {ns : List Int} {i z : Int} (h : atI ns i = some z) : OpD K (rIx K) cs (.scr ns) (.int i) (.int z) := fun G H vx vy w rx ry Q q => by
  rcases rx with rx | ⟨a, e, c⟩
  · cases rx with
    | scr hs =>
      have ei := ry.int w
      refine .inl ⟨_, _, i, .int z, rfl, ei, Evl.ex_l w.sub hs, ?_, q _ G H (Nx.refl w.sub) (.int z)⟩
      unfold atI at h ⊢
      rw [List.length_map]
      cases hj : ixN ns.length i with
      | none => rw [hj] at h; cases h
      | some j =>
        rw [hj] at h
        show (ns.map V.int)[j]? = _
        rw [List.getElem?_map, show ns[j]? = some z from h]
        rfl
  · exact (w.cell _ c).2.elim
theorem cd_lenScr {ns : List Int} : CallD K (uLen K) cs [.scr ns] (.int ns.length) := fun G H vs w r Q q => by
  cases r with
  | cons r0 r1 =>
    cases r1
    rcases r0 with rx | ⟨a, e, c⟩
    · cases rx with
      | scr hs =>
        refine .inl ⟨_, _, rfl, .inl (Evl.ex_l w.sub hs), ?_⟩
        rw [List.length_map]
        exact q _ G H (Nx.refl w.sub) (.int _)
    · exact (w.cell _ c).2.elim
theorem opd_eq {n : Nat} (hn : n ≤ 64) (hx : ok n x = true) (hy : ok n y = true) : OpD K (rEqD K) cs x y (.bl (eqD x y)) := opD_val (v := .bl (eqD x y)) fun G H vx vy w rx ry Q q =>
  ⟨_, _, rx.dp w (ok_pl hx), ry.dp w (ok_pl hy), shaped_of hn hx, shaped_of hn hy, q⟩
theorem opd_ne {n : Nat} (hn : n ≤ 64) (hx : ok n x = true) (hy : ok n y = true) : OpD K (rNeD K) cs x y (.bl (!eqD x y)) := opD_val (v := .bl (!eqD x y)) fun G H vx vy w rx ry Q q =>
  ⟨_, _, rx.dp w (ok_pl hx), ry.dp w (ok_pl hy), shaped_of hn hx, shaped_of hn hy, q⟩
def inD (x : D) (ys : List D) : Bool := ys.any fun y => eqD y x
theorem inD_py (x : D) (ys : List D) : ((toPyL ys).any fun z => PyData.eqv z (toPy x)) = inD x ys := by
  rw [toPyL_map, List.any_map]
  rfl
theorem inD_iff {α : Type} {f : α → D} (h : Apart f) {a : α} {xs : List α} : inD (f a) (xs.map f) = true ↔ a ∈ xs := by
  unfold inD
  rw [List.any_map, List.any_eq_true]
  constructor
  · rintro ⟨b, hb, e⟩
    rw [← (h b a).mp e]
    exact hb
  · intro ha
    exact ⟨a, ha, (h a a).mpr rfl⟩
theorem inD_dec {α : Type} [DecidableEq α] {f : α → D} (h : Apart f) {a : α} {xs : List α} : inD (f a) (xs.map f) = decide (a ∈ xs) := by
  rw [Bool.eq_iff_iff, inD_iff h, decide_eq_true_iff]
theorem opd_inL {n : Nat} {ys : List D} (hn : n < 64) (hx : ok n x = true) (hy : okL n ys = true) : OpD K (uIn K) cs x (.lst ys) (.bl (inD x ys)) := by
  rw [← inD_py]
  refine opD_val (v := .bl _) fun G H vx vy w rx ry Q q => .inl ⟨_, toPyL ys, rx.dp w (ok_pl hx), ?_, shaped_of (by omega) hx, ?_, q⟩
  · have e := ry.dp w (by rw [plD]; exact (okL_iff.mp hy).1)
    rw [toPy] at e
    exact e
  · have e := shaped_of (n := n + 1) (d := .lst ys) (by omega) (by rw [ok_lst]; exact hy)
    rw [toPy] at e
    exact e
theorem opd_inT {n : Nat} {ys : List D} (hn : n < 64) (hx : ok n x = true) (hy : okL n ys = true) : OpD K (uIn K) cs x (.tup ys) (.bl (inD x ys)) := by
  rw [← inD_py]
  refine opD_val (v := .bl _) fun G H vx vy w rx ry Q q => .inr (.inl ⟨_, toPyL ys, rx.dp w (ok_pl hx), ?_, shaped_of (by omega) hx, ?_, q⟩)
  · have e := ry.dp w (by rw [plD]; exact (okL_iff.mp hy).1)
    rw [toPy] at e
    exact e
  · have e := shaped_of (n := n + 1) (d := .tup ys) (by omega) (by rw [ok_tup]; exact hy)
    rw [toPy] at e
    exact e
theorem opd_ninL {n : Nat} {ys : List D} (hn : n < 64) (hx : ok n x = true) (hy : okL n ys = true) : OpD K (uNin K) cs x (.lst ys) (.bl (!inD x ys)) := by
  rw [← inD_py]
  refine opD_val (v := .bl _) fun G H vx vy w rx ry Q q => .inl ⟨_, toPyL ys, rx.dp w (ok_pl hx), ?_, shaped_of (by omega) hx, ?_, q⟩
  · have e := ry.dp w (by rw [plD]; exact (okL_iff.mp hy).1)
    rw [toPy] at e
    exact e
  · have e := shaped_of (n := n + 1) (d := .lst ys) (by omega) (by rw [ok_lst]; exact hy)
    rw [toPy] at e
    exact e
theorem opd_ninT {n : Nat} {ys : List D} (hn : n < 64) (hx : ok n x = true) (hy : okL n ys = true) : OpD K (uNin K) cs x (.tup ys) (.bl (!inD x ys)) := by
  rw [← inD_py]
  refine opD_val (v := .bl _) fun G H vx vy w rx ry Q q => .inr (.inl ⟨_, toPyL ys, rx.dp w (ok_pl hx), ?_, shaped_of (by omega) hx, ?_, q⟩)
  · have e := ry.dp w (by rw [plD]; exact (okL_iff.mp hy).1)
    rw [toPy] at e
    exact e
  · have e := shaped_of (n := n + 1) (d := .tup ys) (by omega) (by rw [ok_tup]; exact hy)
    rw [toPy] at e
    exact e
theorem opd_inS {c : Nat} {s : Str} : OpD K (uIn K) cs (.str ⟨#[c]⟩) (.str s) (.bl (decide (c ∈ s.cps.toList))) := opD_val (v := .bl _) fun G H vx vy w rx ry Q q => .inr (.inr ⟨c, s, rx.str w, ry.str w, q⟩)
theorem opd_ninS {c : Nat} {s : Str} : OpD K (uNin K) cs (.str ⟨#[c]⟩) (.str s) (.bl (!decide (c ∈ s.cps.toList))) := opD_val (v := .bl _) fun G H vx vy w rx ry Q q => .inr (.inr ⟨c, s, rx.str w, ry.str w, q⟩)
/-- x is None: x no value of the kind any -/
def isN : D → Bool
  | .non => true
  | _ => false
def isAny : D → Bool
  | .any _ => true
  | _ => false
theorem repC_non (w : Wl K G H cs) {v : V} {d : D} (r : RepC K G cs v d) (hd : isAny d = false) : decide (v = .non) = isN d := by
  rcases r with r | ⟨a, rfl, c⟩
  · cases r <;> first | rfl | (cases hd)
  · have c2 := (w.cell _ c).2
    cases d <;> first | rfl | exact c2.elim
theorem opd_is (hd : isAny x = false) : OpD K uIs cs x .non (.bl (isN x)) := fun G H vx vy w rx ry Q q => ⟨ry.non w, by
  rw [repC_non w rx hd]
  exact q _ G H (Nx.refl w.sub) (.bl _)⟩
theorem opd_isnot (hd : isAny x = false) : OpD K uIsNot cs x .non (.bl (!isN x)) := fun G H vx vy w rx ry Q q => ⟨ry.non w, by
  rw [repC_non w rx hd]
  exact q _ G H (Nx.refl w.sub) (.bl _)⟩
theorem opd_ixL {ds : List D} {i : Int} (h : atI ds i = some z) : OpD K (rIx K) cs (.lst ds) (.int i) z := fun G H vx vy w rx ry Q q => by
  obtain ⟨a, vs, rfl, ha, ra⟩ := rx.seqL w
  have ei := ry.int w
  unfold atI at h
  cases hj : ixN ds.length i with
  | none => rw [hj] at h; cases h
  | some j =>
    rw [hj] at h
    obtain ⟨v, hv, rv⟩ := ra.get (show ds[j]? = some z from h)
    exact .inl ⟨a, vs, i, v, rfl, ei, .inl (.inl ha), by unfold atI; rw [ra.length, hj]; exact hv, q v G H (Nx.refl w.sub) rv⟩
theorem opd_ixT {ds : List D} {i : Int} (h : atI ds i = some z) : OpD K (rIx K) cs (.tup ds) (.int i) z := fun G H vx vy w rx ry Q q => by
  obtain ⟨a, vs, rfl, ha, ra⟩ := rx.seqT w
  have ei := ry.int w
  unfold atI at h
  cases hj : ixN ds.length i with
  | none => rw [hj] at h; cases h
  | some j =>
    rw [hj] at h
    obtain ⟨v, hv, rv⟩ := ra.get (show ds[j]? = some z from h)
    exact .inr (.inl ⟨a, vs, i, v, rfl, ei, ha, by unfold atI; rw [ra.length, hj]; exact hv, q v G H (Nx.refl w.sub) rv⟩)
theorem opd_ixS {s : Str} {i : Int} {c : Nat} (hl : s.length ≤ 100000) (h : atI s.cps.toList i = some c) : OpD K (rIx K) cs (.str s) (.int i) (.str ⟨#[c]⟩) := opD_val (v := .str ⟨#[c]⟩) fun G H vx vy w rx ry Q q =>
  .inr (.inr ⟨s, i, c, rx.str w, ry.int w, sz hl, h, q⟩)
theorem atI_nat {α : Type} {xs : List α} {j : Nat} {x : α} (h : xs[j]? = some x) : atI xs (j : Int) = some x := L2.atI_nat h
/-- the items of xs[lo:hi] -/
def cutD (xs : List D) (lo hi : Option Int) : List D := (xs.drop (HT.sIx xs.length 0 lo)).take (HT.sIx xs.length xs.length hi - HT.sIx xs.length 0 lo)
theorem rep_cut {vs : List V} {ds : List D} (r : RepL K G vs ds) (lo hi : Option Int) : RepL K G (cutV vs lo hi) (cutD ds lo hi) := by
  unfold cutV cutD
  rw [r.length]
  exact (r.drop _).take _
theorem en_slL {tl th : TO} {ds : List D} {lo hi : Option Int} (h : EvR K te ρ cs (.lst ds)) (h1 : EvO K tl ρ cs lo) (h2 : EvO K th ρ cs hi) : EvN K (tSl (uSl K) te tl th) ρ cs (cutD ds lo hi) := fun G H σ w e Q q =>
  h G H σ w e _ fun v G2 H2 n r => h1 G2 H2 σ (w.step n) (e.mono n.g) _ fun G3 H3 n2 => h2 G3 H3 σ ((w.step n).step n2) ((e.mono n.g).mono n2.g) _ fun G4 H4 n3 => by
    have w4 := ((w.step n).step n2).step n3
    obtain ⟨a, vs, rfl, ha, ra⟩ := ((r.mono n2).mono n3).seqL w4
    refine .inl ⟨a, vs, rfl, .inl (.inl ha), fun p hp => ?_⟩
    have nn := (n.trans n2).trans n3
    exact q p _ G4 _ (nn.trans (Nx.newc nn.s hp)) (Evl.fresh_back nn.h hp) (Evl.fresh_back nn.s hp) upd_same (rep_cut ra lo hi)
theorem cutD_whole {ds : List D} {lo hi : Option Int} (h : HT.sIx ds.length 0 lo = 0 ∧ HT.sIx ds.length ds.length hi = ds.length) : cutD ds lo hi = ds := by
  unfold cutD
  rw [h.1, h.2]
  simp
theorem ev_slT {tl th : TO} {ds : List D} {lo hi : Option Int} (h : EvR K te ρ cs (.tup ds)) (h1 : EvO K tl ρ cs lo) (h2 : EvO K th ρ cs hi) : Ev K (tSl (uSl K) te tl th) ρ cs (.tup (cutD ds lo hi)) := fun G H σ w e Q q =>
  h G H σ w e _ fun v G2 H2 n r => h1 G2 H2 σ (w.step n) (e.mono n.g) _ fun G3 H3 n2 => h2 G3 H3 σ ((w.step n).step n2) ((e.mono n.g).mono n2.g) _ fun G4 H4 n3 => by
    have w4 := ((w.step n).step n2).step n3
    have nn := (n.trans n2).trans n3
    have r4 := (r.mono n2).mono n3
    obtain ⟨a, vs, rfl, ha, ra⟩ := r4.seqT w4
    refine .inr (.inl ⟨a, vs, rfl, ha, fun hw => ?_, fun _ p hp => ?_⟩)
    · rw [ra.length] at hw
      rw [cutD_whole hw] at q
      rcases r4 with r4 | ⟨c, ec, hc⟩
      · exact q _ G4 H4 nn r4
      · exact (w4.cell _ hc).2.elim
    · exact q (.ref p) _ _ (nn.trans (Nx.new nn.s hp)) (.tup (.inl (.inl upd_same)) ((rep_cut ra lo hi).mono (Ex.new (Evl.fresh_back nn.s hp))))
theorem cd_lenL {ds : List D} : CallD K (uLen K) cs [.lst ds] (.int ds.length) := fun G H vs w r Q q => by
  cases r with
  | cons r0 r1 =>
    cases r1
    obtain ⟨a, us, rfl, ha, ra⟩ := r0.seqL w
    refine .inl ⟨a, us, rfl, .inl (.inl (.inl ha)), ?_⟩
    rw [ra.length]
    exact q _ G H (Nx.refl w.sub) (.int _)
theorem cd_lenT {ds : List D} : CallD K (uLen K) cs [.tup ds] (.int ds.length) := fun G H vs w r Q q => by
  cases r with
  | cons r0 r1 =>
    cases r1
    obtain ⟨a, us, rfl, ha, ra⟩ := r0.seqT w
    refine .inl ⟨a, us, rfl, .inr ha, ?_⟩
    rw [ra.length]
    exact q _ G H (Nx.refl w.sub) (.int _)
theorem cd_lenS {s : Str} (h : s.length ≤ 100000) : CallD K (uLen K) cs [.str s] (.int s.length) := fun G H vs w r Q q => by
  cases r with
  | cons r0 r1 =>
    cases r1
    cases r0.str w
    exact .inr ⟨s, rfl, sz h, q _ G H (Nx.refl w.sub) (.int _)⟩
theorem cd_int {i : Int} : CallD K uInt cs [.int i] (.int i) := fun G H vs w r Q q => by
  cases r with
  | cons r0 r1 =>
    cases r1
    cases r0.int w
    exact ⟨i, rfl, q _ G H (Nx.refl w.sub) (.int _)⟩
theorem cn_listL {ds : List D} : CallN K (uList K) cs [.lst ds] ds := fun G H vs w r Q q => by
  cases r with
  | cons r0 r1 =>
    cases r1
    obtain ⟨a, us, rfl, ha, ra⟩ := r0.seqL w
    exact ⟨a, us, rfl, .inl (.inl (.inl ha)), fun l hl => q l us G _ (Nx.newc w.sub hl) hl (Evl.fresh_back w.sub hl) upd_same ra⟩
theorem cn_listT {ds : List D} : CallN K (uList K) cs [.tup ds] ds := fun G H vs w r Q q => by
  cases r with
  | cons r0 r1 =>
    cases r1
    obtain ⟨a, us, rfl, ha, ra⟩ := r0.seqT w
    exact ⟨a, us, rfl, .inr ha, fun l hl => q l us G _ (Nx.newc w.sub hl) hl (Evl.fresh_back w.sub hl) upd_same ra⟩
theorem cd_tupL {ds : List D} : CallD K (uTuple K) cs [.lst ds] (.tup ds) := fun G H vs w r Q q => by
  cases r with
  | cons r0 r1 =>
    cases r1
    obtain ⟨a, us, rfl, ha, ra⟩ := r0.seqL w
    exact ⟨a, us, rfl, .inl ⟨.inl (.inl ha), fun l hl => q _ _ _ (Nx.new w.sub hl) (.tup (.inl (.inl upd_same)) (ra.mono (Ex.new (Evl.fresh_back w.sub hl))))⟩⟩
theorem cd_tupT {ds : List D} : CallD K (uTuple K) cs [.tup ds] (.tup ds) := fun G H vs w r Q q => by
  cases r with
  | cons r0 r1 =>
    cases r1
    have r0' := r0
    obtain ⟨a, us, rfl, ha, ra⟩ := r0.seqT w
    refine ⟨a, us, rfl, .inr ⟨ha, ?_⟩⟩
    rcases r0' with r4 | ⟨c, ec, hc⟩
    · exact q _ G H (Nx.refl w.sub) r4
    · exact (w.cell _ hc).2.elim
end
end Lv

namespace Lv
open PySem L2
open Evl (Ex)
section
variable {K : PySem.W.Frag} {G G0 G1 G2 H H0 H1 H2 H3 G3 : Hp} {ρ : Ro} {cs : Cs} {ta tb te tx : TE} {tt tu : TT} {d d' e x y z : D}
/-! ### what is walked -/
/-- the iterator J gives ds; src: the cell that it walks -/
structure Its (K : PySem.W.Frag) (J : It) (G : Hp) (src : Cs) (ds : List D) : Prop where
  go : ∀ (i : Nat) (d : D) (G3 H3 : Hp) (cs3 : Cs), ds[i]? = some d → Ex G G3 → Wl K G3 H3 cs3 → (∀ c ∈ src, c ∈ cs3) → J.go i H3 ∧ ∀ x H', J.yld i H3 x H' → ∃ G4, Nx G3 H3 G4 H' ∧ Rep K G4 x d
  stop : ∀ (i : Nat) (G3 H3 : Hp) (cs3 : Cs), ds.length ≤ i → Ex G G3 → Wl K G3 H3 cs3 → (∀ c ∈ src, c ∈ cs3) → J.stop i H3
def EvI (K : PySem.W.Frag) (wi : TI) (ρ : Ro) (cs src : Cs) (ds : List D) : Prop := ∀ G H σ, Wl K G H cs → Env K G σ ρ → ∀ R : It → Hp → Prop, (∀ J G2 H2, Nx G H G2 H2 → (∀ c ∈ src, c ∈ cs) → Its K J G2 src ds → R J H2) → wi σ H R
theorem EvI.of {wi : TI} {src : Cs} {ds ds' : List D} (h : EvI K wi ρ cs src ds) (e : ds = ds') : EvI K wi ρ cs src ds' := e ▸ h
/-- a list or a tuple -/
def iSeq (K : PySem.W.Frag) (tl : TE) : TI := fun σ H R => iList K tl σ H R ∨ iTup K tl σ H R
theorem _root_.L2.PI.or {X : Cx} {tg iter : Expr} {w w' : TI} (h : PI X tg iter w) (h' : PI X tg iter w') : PI X tg iter (fun σ H R => w σ H R ∨ w' σ H R) := ⟨fun pins s σ H R I q => by
  rcases q with q | q
  · exact h.run pins s σ H R I q
  · exact h'.run pins s σ H R I q⟩
theorem its_listP {a : Addr} {vs : List V} {ds : List D} (h : G a = some (.lst vs)) (r : RepL K G vs ds) : Its K (Itl K a) G [] ds := ⟨fun i d G3 H3 cs3 hd x w3 _ => by
  obtain ⟨u, hu, ru⟩ := r.get hd
  have hL : SqL K H3 a vs := .inl (.inl (w3.sub _ _ (x _ _ h)))
  refine ⟨⟨vs, u, hL, hu⟩, fun y H' hy => ?_⟩
  obtain ⟨rfl, hy⟩ := hy
  have e := (hy _ hL).symm.trans hu
  cases e
  exact ⟨G3, Nx.refl w3.sub, ru.mono x⟩, fun i G3 H3 cs3 hi x w3 _ => ⟨vs, .inl (.inl (w3.sub _ _ (x _ _ h))), by rw [r.length]; exact hi⟩⟩
theorem its_listC {a : Addr} {ds : List D} : Its K (Itl K a) G [(a, .lst ds)] ds := ⟨fun i d G3 H3 cs3 hd x w3 hs => by
  obtain ⟨_, us, e3, r3⟩ := w3.cell _ (hs (a, .lst ds) (by simp))
  obtain ⟨u, hu, ru⟩ := r3.get hd
  have hL : SqL K H3 a us := .inl (.inl e3)
  refine ⟨⟨us, u, hL, hu⟩, fun y H' hy => ?_⟩
  obtain ⟨rfl, hy⟩ := hy
  have e := (hy _ hL).symm.trans hu
  cases e
  exact ⟨G3, Nx.refl w3.sub, ru⟩, fun i G3 H3 cs3 hi x w3 hs => by
  obtain ⟨_, us, e3, r3⟩ := w3.cell _ (hs (a, .lst ds) (by simp))
  exact ⟨us, .inl (.inl e3), by rw [r3.length]; exact hi⟩⟩
theorem no_src {cs : Cs} : ∀ c ∈ ([] : Cs), c ∈ cs := fun c hc => by simp at hc
theorem ei_list {tl : TE} {ds : List D} (h : Ev K tl ρ cs (.lst ds)) : EvI K (iList K tl) ρ cs [] ds := fun G H σ w e R q => h G H σ w e _ fun v G2 H2 n r => by
  cases r with
  | lst hg r => exact ⟨_, rfl, ⟨_, .inl (.inl (n.s _ _ hg))⟩, q _ G2 H2 n no_src (its_listP hg r)⟩
theorem ei_cell {tl : TE} {a : Addr} {ds : List D} (h : Ev K tl ρ cs (.any (.ref a))) (hc : (a, .lst ds) ∈ cs) : EvI K (iList K tl) ρ cs [(a, .lst ds)] ds := fun G H σ w e R q => h G H σ w e _ fun v G2 H2 n r => by
  cases r
  obtain ⟨_, us, e3, r3⟩ := (w.step n).cell _ hc
  exact ⟨_, rfl, ⟨us, .inl (.inl e3)⟩, q _ G2 H2 n (fun c h => by rw [List.mem_singleton] at h; rw [h]; exact hc) its_listC⟩
theorem ei_tup {tl : TE} {ds : List D} (h : Ev K tl ρ cs (.tup ds)) : EvI K (iTup K tl) ρ cs [] ds := fun G H σ w e R q => h G H σ w e _ fun v G2 H2 n r => by
  cases r with
  | @tup a vs _ h r =>
    refine ⟨a, rfl, ⟨vs, Evl.ex_t n.s h⟩, q _ G2 H2 n no_src ⟨fun i d G3 H3 cs3 hd x w3 _ => ?_, fun i G3 H3 cs3 hi x w3 _ => ?_⟩⟩
    · obtain ⟨u, hu, ru⟩ := r.get hd
      have hL : SqT K H3 a vs := Evl.ex_t (x.trans w3.sub) h
      refine ⟨⟨vs, u, hL, hu⟩, fun y H' hy => ?_⟩
      obtain ⟨rfl, hy⟩ := hy
      have e := (hy _ hL).symm.trans hu
      cases e
      exact ⟨G3, Nx.refl w3.sub, ru.mono x⟩
    · exact ⟨vs, Evl.ex_t (x.trans w3.sub) h, by rw [r.length]; exact hi⟩
theorem ei_seqL {tl : TE} {ds : List D} (h : Ev K tl ρ cs (.lst ds)) : EvI K (iSeq K tl) ρ cs [] ds := fun G H σ w e R q => .inl (ei_list h G H σ w e R q)
theorem ei_seqC {tl : TE} {a : Addr} {ds : List D} (h : Ev K tl ρ cs (.any (.ref a))) (hc : (a, .lst ds) ∈ cs) : EvI K (iSeq K tl) ρ cs [(a, .lst ds)] ds := fun G H σ w e R q => .inl (ei_cell h hc G H σ w e R q)
theorem ei_seqT {tl : TE} {ds : List D} (h : Ev K tl ρ cs (.tup ds)) : EvI K (iSeq K tl) ρ cs [] ds := fun G H σ w e R q => .inr (ei_tup h G H σ w e R q)
theorem ei_rng1 {t : TA} {n : Nat} (h : EvA K t ρ cs [.int (n : Int)]) (hn : n ≤ 100000) : EvI K (iRng1 t) ρ cs [] ((List.range n).map fun (i : Nat) => D.int (i : Int)) := fun G H σ w e R q => h G H σ w e _ fun vs G2 H2 nx r => by
  cases r with
  | cons r0 r1 =>
    cases r1
    cases r0
    refine ⟨(n : Int), rfl, by omega, by omega, q _ G2 H2 nx no_src ⟨fun i d G3 H3 cs3 hd x w3 _ => ?_, fun i G3 H3 cs3 hi x w3 _ => ?_⟩⟩
    · rw [List.getElem?_map] at hd
      have hi : i < n := by
        cases hr : (List.range n)[i]? with
        | none => rw [hr] at hd; cases hd
        | some u =>
          have := (List.getElem?_eq_some_iff.mp hr).1
          simpa using this
      rw [List.getElem?_range hi] at hd
      cases hd
      refine ⟨by show i < (n : Int).toNat; omega, fun y H' hy => ?_⟩
      obtain ⟨rfl, rfl⟩ := hy
      refine ⟨G3, Nx.refl w3.sub, ?_⟩
      rw [Int.zero_add]
      exact .int _
    · rw [List.length_map, List.length_range] at hi
      show (n : Int).toNat ≤ i
      omega
theorem ei_rng2 {t : TA} {lo hi : Int} (h : EvA K t ρ cs [.int lo, .int hi]) (hn : -100000 ≤ lo ∧ lo ≤ 100000 ∧ -100000 ≤ hi ∧ hi ≤ 100000) : EvI K (iRng2 t) ρ cs [] ((List.range (hi - lo).toNat).map fun (i : Nat) => D.int (lo + (i : Int))) := fun G H σ w e R q => h G H σ w e _ fun vs G2 H2 nx r => by
  cases r with
  | cons r0 r1 =>
    cases r1 with
    | cons r2 r3 =>
    cases r3
    cases r0
    cases r2
    refine ⟨lo, hi, rfl, ⟨by omega, by omega, by omega, by omega⟩, q _ G2 H2 nx no_src ⟨fun i d G3 H3 cs3 hd x w3 _ => ?_, fun i G3 H3 cs3 hi x w3 _ => ?_⟩⟩
    · rw [List.getElem?_map] at hd
      have hi : i < (hi - lo).toNat := by
        cases hr : (List.range (hi - lo).toNat)[i]? with
        | none => rw [hr] at hd; cases hd
        | some u =>
          have := (List.getElem?_eq_some_iff.mp hr).1
          simpa using this
      rw [List.getElem?_range hi] at hd
      cases hd
      refine ⟨hi, fun y H' hy => ?_⟩
      obtain ⟨rfl, rfl⟩ := hy
      exact ⟨G3, Nx.refl w3.sub, .int _⟩
    · rw [List.length_map, List.length_range] at hi
      exact hi

/-! ### targets -/
structure Sets (σ σ2 : L2.St) (js : List Nat) : Prop where
  len : σ2.length = σ.length
  out : ∀ i, i ∉ js → σ2[i]? = σ[i]?
def EvG (K : PySem.W.Frag) (g : TG) (d : D) (ρ : Ro) (ρ' : Ro) (js : List Nat) : Prop := ∀ G H σ v, Ex G H → Env K G σ ρ → Rep K G v d → ∀ Q : L2.St → Hp → Prop, (∀ σ2, Env K G σ2 ρ' → Sets σ σ2 js → Q σ2 H) → g v σ H Q
def EvGs (K : PySem.W.Frag) (g : TGs) (ds : List D) (ρ : Ro) (ρ' : Ro) (js : List Nat) : Prop := ∀ G H σ vs, Ex G H → Env K G σ ρ → RepL K G vs ds → ∀ Q : L2.St → Hp → Prop, (∀ σ2, Env K G σ2 ρ' → Sets σ σ2 js → Q σ2 H) → g vs σ H Q
theorem eg_name {j : Nat} : EvG K (gName j) d ρ (ρ.set j (some d)) [j] := fun G H σ v s e r Q q => q _ (e.set j r) ⟨List.length_set, fun i hi => by
  rw [List.mem_singleton] at hi
  exact List.getElem?_set_ne (fun z => hi z.symm)⟩
theorem egs_nil : EvGs K gNil [] ρ ρ [] := fun G H σ vs s e r Q q => by
  cases r
  exact ⟨rfl, q σ e ⟨rfl, fun _ _ => rfl⟩⟩
theorem egs_cons {g : TG} {gs : TGs} {ds : List D} {ρ1 ρ2 : Ro} {js js' : List Nat} (h : EvG K g d ρ ρ1 js) (hs : EvGs K gs ds ρ1 ρ2 js') : EvGs K (gCons g gs) (d :: ds) ρ ρ2 (js ++ js') := fun G H σ vs s e r Q q => by
  cases r with
  | cons r0 r1 =>
    refine ⟨_, _, rfl, h G H σ _ s e r0 _ fun σ2 e2 s2 => hs G H σ2 _ s e2 r1 _ fun σ3 e3 s3 => q σ3 e3 ⟨s3.len.trans s2.len, fun i hi => ?_⟩⟩
    rw [List.mem_append, not_or] at hi
    rw [s3.out i hi.2, s2.out i hi.1]
theorem eg_tup {gs : TGs} {ds : List D} {ρ1 : Ro} {js : List Nat} {n : Nat} (h : EvGs K gs ds ρ ρ1 js) (hn : ds.length = n) : EvG K (gTup K n gs) (.tup ds) ρ ρ1 js := fun G H σ v s e r Q q => by
  cases r with
  | tup hs rs => exact ⟨_, _, rfl, Evl.ex_t s hs, by rw [rs.length]; exact hn, h G H σ _ s e rs Q q⟩
theorem wipe_at {σ : L2.St} {i : Nat} : ∀ {vs : List Nat}, (wipe σ vs)[i]? = if i ∈ vs ∧ i < σ.length then some none else σ[i]?
  | [] => by simp [wipe]
  | v :: vs => by
    rw [wipe, List.getElem?_set, wipe_length, wipe_at (vs := vs)]
    by_cases h : v = i
    · subst h
      by_cases hl : v < σ.length
      · simp [hl]
      · simp [hl]
    · have h' : ¬ i = v := fun z => h z.symm
      simp [h, h']
theorem wipe_eq {σ σ2 : L2.St} {vs js : List Nat} (s : Sets (wipe σ vs) σ2 js) (hj : ∀ j ∈ js, j ∈ vs) : wipe σ2 vs = wipe σ vs := by
  apply List.ext_getElem?
  intro i
  rw [wipe_at, s.len, wipe_length]
  by_cases h : i ∈ vs
  · rw [wipe_at]
    by_cases hl : i < σ.length
    · simp [h, hl]
    · rw [if_neg (by omega), if_neg (by omega), List.getElem?_eq_none (by rw [s.len, wipe_length]; omega), List.getElem?_eq_none (by omega)]
  · rw [if_neg (fun z => h z.1), s.out i (fun z => h (hj i z))]

/-! ### comprehensions -/
theorem Nx.mutate {p : Addr} {o : HO} (n : Nx G H G2 H2) (hp : H p = none) (gp : G2 p = none) : Nx G H G2 (upd H2 p o) := ⟨n.g, n.h.mut hp, fun a u e => by
  rw [upd_ne (ne_of_none e gp)]
  exact n.s a u e, n.f⟩
theorem Nx.keepN {p : Addr} {o : HO} (n : Nx G H G2 H2) (hp : H p = some o) (gp : G p = none) : G2 p = none := by
  cases e : G2 p with
  | none => rfl
  | some u =>
    rw [n.f p u e gp] at hp
    cases hp
def LcI (K : PySem.W.Frag) (G1 H1 : Hp) (Dl : Addr) (ds : List D) (Hc : Hp) : Prop := ∃ Gc us, Nx G1 H1 Gc Hc ∧ Gc Dl = none ∧ Hc Dl = some (.lst us) ∧ RepL K Gc us ds
theorem lc_turn {Hc : Hp} {Dl : Addr} {ds : List D} {b : Bool} {v : D} {J : It} {src : Cs} {its0 : List D} {i : Nat} {σ : L2.St} {g : TG} {vs js : List Nat} {ρ1 : Ro} {Nxt : List D → Hp → Prop} (w1 : Wl K G1 H1 cs) (e1 : Env K G1 (wipe σ vs) (wipeD ρ vs)) (hDl : H1 Dl = none)
    (its : Its K J G1 src its0) (hsrc : ∀ c ∈ src, c ∈ cs) (hi : its0[i]? = some d) (inv : LcI K G1 H1 Dl ds Hc) (hg : EvG K g d (wipeD ρ vs) ρ1 js) (hj : ∀ j ∈ js, j ∈ vs)
    (ht : EvT K tt ρ1 cs b) (he : b = true → Ev K te ρ1 cs v) (hl : ds.length < 100000)
    (hn1 : b = true → ∀ Hn, LcI K G1 H1 Dl (ds ++ [v]) Hn → Nxt (ds ++ [v]) Hn) (hn2 : b = false → ∀ Hn, LcI K G1 H1 Dl ds Hn → Nxt ds Hn) :
    J.go i Hc ∧ ∀ x H', J.yld i Hc x H' → g x (wipe σ vs) H' fun σ2 H2 => wipe σ2 vs = wipe σ vs ∧ tt σ2 H2 fun b' H3 =>
      if b' = true then te σ2 H3 fun y H4 => ∃ acc, H4 Dl = some (.lst acc) ∧ acc.length < sizeLine ∧ Nxt (ds ++ [v]) (upd H4 Dl (.lst (acc ++ [y]))) else Nxt ds H3 := by
  obtain ⟨Gc, us, n, gD, hD, rl⟩ := inv
  have wc := w1.step n
  obtain ⟨go, yl⟩ := its.go i d Gc Hc cs hi n.g wc hsrc
  refine ⟨go, fun x H' hy => ?_⟩
  obtain ⟨G4, n4, rx⟩ := yl x H' hy
  refine hg G4 H' (wipe σ vs) x n4.s ((e1.mono n.g).mono n4.g) rx _ fun σ2 e2 s2 => ⟨wipe_eq s2 hj, ?_⟩
  have w4 := wc.step n4
  refine ht G4 H' σ2 w4 e2 _ fun G5 H5 n5 => ?_
  have gD5 : G5 Dl = none := (n4.trans n5).keepN hD gD
  have hD5 : H5 Dl = some (.lst us) := (n4.trans n5).h _ _ hD
  cases b with
  | false => exact hn2 rfl H5 ⟨G5, us, (n.trans n4).trans n5, gD5, hD5, rl.mono (n4.trans n5).g⟩
  | true =>
    refine he rfl G5 H5 σ2 (w4.step n5) (e2.mono n5.g) _ fun y G6 H6 n6 ry => ?_
    have gD6 : G6 Dl = none := n6.keepN hD5 gD5
    refine ⟨us, n6.h _ _ hD5, by rw [rl.length]; exact Evl.sz_lt hl, hn1 rfl _ ⟨G6, us ++ [y], ((((n.trans n4).trans n5).trans n6).mutate hDl gD6), gD6, upd_same, ?_⟩⟩
    exact (rl.mono ((n4.trans n5).trans n6).g).append (.one ry)
theorem en_lc {α : Type} {xs : List α} {enc : α → D} {wi : TI} {g : TG} {vs js : List Nat} {src : Cs} {f : α → Bool} {v : α → D} {ρ' : α → Ro} (hi : EvI K wi ρ cs src (xs.map enc)) (hg : ∀ a ∈ xs, EvG K g (enc a) (wipeD ρ vs) (ρ' a) js) (hj : ∀ j ∈ js, j ∈ vs)
    (ht : ∀ a ∈ xs, EvT K tt (ρ' a) cs (f a)) (he : ∀ a ∈ xs, f a = true → Ev K te (ρ' a) cs (v a)) (hl : xs.length ≤ 100000) : EvN K (tLc wi g tt te vs) ρ cs ((xs.filter f).map v) := fun G H σ w e Q q =>
  hi G H σ w e _ fun J G1 H1 n1 hsrc its Dl hDl => by
    have w1 := w.step n1
    have e1 : Env K G1 (wipe σ vs) (wipeD ρ vs) := (e.mono n1.g).wipe vs
    refine ⟨fun i m Hc => m = xs.length - i ∧ i ≤ xs.length ∧ LcI K G1 H1 Dl (((xs.take i).filter f).map v) Hc, ⟨xs.length, rfl, Nat.zero_le _, G1, [], Nx.newc w1.sub hDl, Evl.fresh_back w1.sub hDl, upd_same, .nil⟩, fun i m Hc hW => ?_⟩
    obtain ⟨rfl, hle, inv⟩ := hW
    by_cases hlt : i < xs.length
    · have hmem : xs[i] ∈ xs := List.getElem_mem hlt
      have hat : (xs.map enc)[i]? = some (enc xs[i]) := by rw [List.getElem?_map, List.getElem?_eq_getElem hlt]; rfl
      have hlen : (((xs.take i).filter f).map v).length < 100000 := by
        rw [List.length_map]
        have := List.length_filter_le f (xs.take i)
        rw [List.length_take] at this
        omega
      have tk : xs.take (i + 1) = xs.take i ++ [xs[i]] := by rw [List.take_add_one, List.getElem?_eq_getElem hlt]; rfl
      refine .inr ?_
      have key := lc_turn (Nxt := fun ds Hn => LcI K G1 H1 Dl (((xs.take (i + 1)).filter f).map v) Hn) w1 e1 hDl its hsrc hat inv (hg _ hmem) hj (ht _ hmem) (he _ hmem) hlen
        (fun hb Hn h => by
          have e2 : ((xs.take (i + 1)).filter f).map v = ((xs.take i).filter f).map v ++ [v xs[i]] := by
            rw [tk, List.filter_append, List.filter_cons_of_pos hb, List.filter_nil, List.map_append]
            rfl
          rw [e2]
          exact h)
        (fun hb Hn h => by
          have e2 : ((xs.take (i + 1)).filter f).map v = ((xs.take i).filter f).map v := by
            rw [tk, List.filter_append, List.filter_cons_of_neg (by rw [hb]; decide), List.filter_nil, List.append_nil]
          rw [e2]
          exact h)
      exact ⟨key.1, fun Hn => LcI K G1 H1 Dl (((xs.take (i + 1)).filter f).map v) Hn, fun H' h => ⟨xs.length - (i + 1), by omega, rfl, by omega, h⟩, key.2⟩
    · obtain ⟨Gc, us, n, gD, hD, rl⟩ := inv
      refine .inl ⟨its.stop i Gc Hc cs (by rw [List.length_map]; omega) n.g (w1.step n) hsrc, ?_⟩
      rw [List.take_of_length_le (by omega)] at rl
      exact q Dl us Gc Hc (n1.trans n) (Evl.fresh_back n1.h hDl) gD hD rl
theorem en_map {α : Type} {xs : List α} {enc : α → D} {wi : TI} {g : TG} {vs js : List Nat} {src : Cs} {v : α → D} {ρ' : α → Ro} (hi : EvI K wi ρ cs src (xs.map enc)) (hg : ∀ a ∈ xs, EvG K g (enc a) (wipeD ρ vs) (ρ' a) js) (hj : ∀ j ∈ js, j ∈ vs)
    (he : ∀ a ∈ xs, Ev K te (ρ' a) cs (v a)) (hl : xs.length ≤ 100000) : EvN K (tLc wi g tYes te vs) ρ cs (xs.map v) := by
  have h := en_lc (f := fun _ => true) (v := v) hi hg hj (fun _ _ => et_yes) (fun a ha _ => he a ha) hl
  rw [List.filter_eq_self.mpr (fun _ _ => rfl)] at h
  exact h
end
end Lv

namespace Lv
open PySem L2
open Evl (Ex)
/-- from the entry (G0, H0) on: bs: the caller's cells that may change -/
structure Rl (K : PySem.W.Frag) (G0 H0 : Hp) (bs : List Addr) (G H : Hp) (cs : Cs) : Prop where
  wl : Wl K G H cs
  g0 : Ex G0 G
  h0 : ∀ a o, H0 a = some o → a ∉ bs → H a = some o
  nw : ∀ a o, G a = some o → G0 a = none → H0 a = none
  cl : ∀ c ∈ cs, c.1 ∈ bs ∨ H0 c.1 = none
  bd : ∀ b ∈ bs, ∃ o, H b = some o
  b0 : ∀ b ∈ bs, ∃ o, H0 b = some o
/-- an exception: its class, its own fields -/
def Xr (K : PySem.W.Frag) (G H : Hp) (dd : Option Addr) (fs : Option (List (Str × D))) : Prop := match fs with
  | none => dd = none
  | some fs => ∃ (p : Addr) (vs : List (Str × V)), dd = some p ∧ H p = some (.xd vs) ∧ RepF K G vs fs
/-- the exception's own dict is new -/
def Xn (H0 G : Hp) (cs : Cs) (dd : Option Addr) : Prop := ∀ p, dd = some p → H0 p = none ∧ G p = none ∧ ∀ c ∈ cs, c.1 ≠ p
structure Po where
  nx : Ro → Cs → Prop
  rt : D → Cs → Prop
  bk : Ro → Cs → Prop := fun _ _ => False
  ct : Ro → Cs → Prop := fun _ _ => False
  ex : Ro → Cs → Value → Option (List (Str × D)) → Prop := fun _ _ _ _ => False
structure Ok (K : PySem.W.Frag) (G0 H0 : Hp) (bs : List Addr) (E : Ends) (W : WX) (P : Po) : Prop where
  nx : ∀ G H σ ρ cs, Rl K G0 H0 bs G H cs → Env K G σ ρ → P.nx ρ cs → E.nx σ H
  rt : ∀ G H v d cs, Rl K G0 H0 bs G H cs → Rep K G v d → P.rt d cs → E.rt v H
  bk : ∀ G H σ ρ cs, Rl K G0 H0 bs G H cs → Env K G σ ρ → P.bk ρ cs → E.bk σ H
  ct : ∀ G H σ ρ cs, Rl K G0 H0 bs G H cs → Env K G σ ρ → P.ct ρ cs → E.ct σ H
  ex : ∀ G H σ ρ cs cls dd fs, Rl K G0 H0 bs G H cs → Env K G σ ρ → Xr K G H dd fs → Xn H0 G cs dd → P.ex ρ cs cls fs → W cls dd σ H
def Sv (K : PySem.W.Frag) (W : WX) (bs : List Addr) (ts : TS) (ρ : Ro) (cs : Cs) (P : Po) : Prop := ∀ G0 H0 G H σ E, Rl K G0 H0 bs G H cs → Env K G σ ρ → Ok K G0 H0 bs E W P → ts E σ H
section
variable {K : PySem.W.Frag} {G G0 G1 G2 H H0 H1 H2 H3 G3 : Hp} {ρ ρ1 : Ro} {cs : Cs} {ta tb te tx : TE} {tt : TT} {d d' e x y z : D} {W : WX} {bs : List Addr} {P : Po} {t u : TS}
theorem Rl.step (r : Rl K G0 H0 bs G H cs) (n : Nx G H G2 H2) : Rl K G0 H0 bs G2 H2 cs := ⟨r.wl.step n, r.g0.trans n.g, fun a o h hb => n.h _ _ (r.h0 a o h hb), fun a o e z => by
  cases h : G a with
  | none =>
    have hn := n.f a o e h
    cases h0 : H0 a with
    | none => rfl
    | some u =>
      by_cases hb : a ∈ bs
      · obtain ⟨o', ho⟩ := r.bd a hb
        rw [hn] at ho
        cases ho
      · rw [r.h0 a u h0 hb] at hn
        cases hn
  | some u => exact r.nw a u h z, r.cl, fun b hb => by
    obtain ⟨o, ho⟩ := r.bd b hb
    exact ⟨o, n.h _ _ ho⟩, r.b0⟩
theorem Sv.le {ρ' : Ro} (h : Sv K W bs t ρ' cs P) (l : le ρ' ρ) : Sv K W bs t ρ cs P := fun G0 H0 G H σ E r e o => h G0 H0 G H σ E r (e.le l) o
theorem sv_seq (h : Sv K W bs t ρ cs { P with nx := fun ρ' cs' => Sv K W bs u ρ' cs' P }) : Sv K W bs (tSeq t u) ρ cs P := fun G0 H0 G H σ E r e o =>
  h G0 H0 G H σ { E with nx := u E } r e ⟨fun G H σ ρ cs r e k => k G0 H0 G H σ E r e o, o.rt, o.bk, o.ct, o.ex⟩
theorem sv_next (h : P.nx ρ cs) : Sv K W bs tNext ρ cs P := fun G0 H0 G H σ E r e o => o.nx G H σ ρ cs r e h
theorem sv_break (h : P.bk ρ cs) : Sv K W bs tBreak ρ cs P := fun G0 H0 G H σ E r e o => o.bk G H σ ρ cs r e h
theorem sv_cont (h : P.ct ρ cs) : Sv K W bs tCont ρ cs P := fun G0 H0 G H σ E r e o => o.ct G H σ ρ cs r e h
theorem sv_asg {g : TG} {js : List Nat} (h : Ev K te ρ cs d) (hg : EvG K g d ρ ρ1 js) (k : P.nx ρ1 cs) : Sv K W bs (tAsg te g) ρ cs P := fun G0 H0 G H σ E r e o =>
  h G H σ r.wl e _ fun v G2 H2 n rv => hg G2 H2 σ v n.s (e.mono n.g) rv _ fun σ2 e2 _ => o.nx G2 H2 σ2 ρ1 cs (r.step n) e2 k
theorem sv_set {i : Nat} (h : Ev K te ρ cs d) (k : P.nx (ρ.set i (some d)) cs) : Sv K W bs (tAsg te (gName i)) ρ cs P := sv_asg h eg_name k
theorem Rl.newCell {p : Addr} {vs : List V} {ds : List D} (r : Rl K G0 H0 bs G H cs) (hp0 : H0 p = none) (gp : G p = none) (hp : H p = some (.lst vs)) (rl : RepL K G vs ds) (hc : ∀ c ∈ cs, c.1 ≠ p) : Rl K G0 H0 bs G H ((p, .lst ds) :: cs) :=
  ⟨⟨r.wl.sub, fun c h => by
    rcases List.mem_cons.mp h with rfl | h
    · exact ⟨gp, vs, hp, rl⟩
    · exact r.wl.cell c h, by
    rw [List.map_cons, List.nodup_cons]
    refine ⟨fun h => ?_, r.wl.nd⟩
    obtain ⟨c, h1, h2⟩ := List.mem_map.mp h
    exact hc c h1 h2⟩, r.g0, r.h0, r.nw, fun c h => by
    rcases List.mem_cons.mp h with rfl | h
    · exact .inr hp0
    · exact r.cl c h, r.bd, r.b0⟩
theorem Rl.none0 {p : Addr} (r : Rl K G0 H0 bs G H cs) (hp : H p = none) : H0 p = none ∧ p ∉ bs ∧ ∀ c ∈ cs, c.1 ≠ p := by
  have hb : p ∉ bs := fun h => by
    obtain ⟨o, ho⟩ := r.bd p h
    rw [hp] at ho
    cases ho
  refine ⟨?_, hb, fun c hc z => ?_⟩
  · cases h : H0 p with
    | none => rfl
    | some o =>
      rw [r.h0 p o h hb] at hp
      cases hp
  · obtain ⟨o, ho⟩ := (r.wl.cell c hc).2.some
    rw [z, hp] at ho
    cases ho
theorem sv_setN {i : Nat} {ds : List D} (h : EvN K te ρ cs ds) (k : ∀ a, a ∉ bs → (∀ c ∈ cs, c.1 ≠ a) → P.nx (ρ.set i (some (.any (.ref a)))) ((a, .lst ds) :: cs)) : Sv K W bs (tAsg te (gName i)) ρ cs P := fun G0 H0 G H σ E r e o =>
  h G H σ r.wl e _ fun p vs G2 H2 n hp gp h2 rl => by
    obtain ⟨a1, a2, a3⟩ := r.none0 hp
    exact o.nx G2 H2 _ _ _ ((r.step n).newCell a1 gp h2 rl a3) ((e.mono n.g).set i (.any _)) (k p a2 a3)
theorem sv_ret (h : Ev K te ρ cs d) (k : P.rt d cs) : Sv K W bs (tRet te) ρ cs P := fun G0 H0 G H σ E r e o =>
  h G H σ r.wl e _ fun v G2 H2 n rv => o.rt G2 H2 v d cs (r.step n) rv k
theorem sv_retN {ds : List D} (h : EvN K te ρ cs ds) (k : ∀ a, a ∉ bs → (∀ c ∈ cs, c.1 ≠ a) → P.rt (.any (.ref a)) ((a, .lst ds) :: cs)) : Sv K W bs (tRet te) ρ cs P := fun G0 H0 G H σ E r e o =>
  h G H σ r.wl e _ fun p vs G2 H2 n hp gp h2 rl => by
    obtain ⟨a1, a2, a3⟩ := r.none0 hp
    exact o.rt G2 H2 _ _ _ ((r.step n).newCell a1 gp h2 rl a3) (.any _) (k p a2 a3)
theorem sv_retNone (k : P.rt .non cs) : Sv K W bs tRetN ρ cs P := fun G0 H0 G H σ E r e o => o.rt G H .non .non cs r .non k
theorem sv_if {b : Bool} (h : EvT K tt ρ cs b) (h1 : b = true → Sv K W bs t ρ cs P) (h2 : b = false → Sv K W bs u ρ cs P) : Sv K W bs (tIfS tt t u) ρ cs P := fun G0 H0 G H σ E r e o =>
  h G H σ r.wl e _ fun G2 H2 n => by
    cases b with
    | true => exact h1 rfl G0 H0 G2 H2 σ E (r.step n) (e.mono n.g) o
    | false => exact h2 rfl G0 H0 G2 H2 σ E (r.step n) (e.mono n.g) o
theorem sv_drop (h : Ev K te ρ cs d) (k : P.nx ρ cs) : Sv K W bs (tDrop te) ρ cs P := fun G0 H0 G H σ E r e o =>
  h G H σ r.wl e _ fun v G2 H2 n rv => o.nx G2 H2 σ ρ cs (r.step n) (e.mono n.g) k
theorem sv_aug {i : Nat} {f : Int → Int → Int} {a b : Int} (hx : ρ[i]? = some (some (.int a))) (h : Ev K te ρ cs (.int b)) (k : P.nx (ρ.set i (some (.int (f a b)))) cs) : Sv K W bs (tAug i te (ipI f)) ρ cs P := fun G0 H0 G H σ E r e o => by
  obtain ⟨v, hv, rv⟩ := e.at_ i _ hx
  cases rv
  exact ⟨_, hv, h G H σ r.wl e _ fun v G2 H2 n rv => by
    cases rv
    exact ⟨a, b, rfl, rfl, o.nx G2 H2 _ _ cs (r.step n) ((e.mono n.g).set i (.int _)) k⟩⟩
/-! ### cells change -/
def setC (a : Addr) (d : D) : Cs → Cs
  | [] => []
  | c :: cs => if c.1 = a then (a, d) :: cs else c :: setC a d cs
theorem setC_fst (a : Addr) (d : D) : ∀ cs : Cs, (setC a d cs).map (·.1) = cs.map (·.1)
  | [] => rfl
  | c :: cs => by
    rw [setC]
    by_cases h : c.1 = a
    · rw [if_pos h, List.map_cons, List.map_cons, h]
    · rw [if_neg h, List.map_cons, List.map_cons, setC_fst a d cs]
theorem mem_setC {a : Addr} {d : D} {c : Addr × D} : ∀ {cs : Cs}, (cs.map (·.1)).Nodup → c ∈ setC a d cs → c = (a, d) ∨ (c ∈ cs ∧ c.1 ≠ a)
  | [], _, h => by simp [setC] at h
  | b :: cs, nd, h => by
    rw [List.map_cons, List.nodup_cons] at nd
    rw [setC] at h
    by_cases hb : b.1 = a
    · rw [if_pos hb] at h
      rcases List.mem_cons.mp h with h | h
      · exact .inl h
      · refine .inr ⟨List.mem_cons_of_mem _ h, fun z => nd.1 ?_⟩
        rw [hb, ← z]
        exact List.mem_map.mpr ⟨c, h, rfl⟩
    · rw [if_neg hb] at h
      rcases List.mem_cons.mp h with h | h
      · subst h
        exact .inr ⟨List.mem_cons_self, hb⟩
      · rcases mem_setC nd.2 h with h | h
        · exact .inl h
        · exact .inr ⟨List.mem_cons_of_mem _ h.1, h.2⟩
theorem Cell.upd_ne {a b : Addr} {o : HO} (h : Cell K G H a d) (hne : a ≠ b) : Cell K G (upd H b o) a d := by
  cases d with
  | lst ds => obtain ⟨vs, e, r⟩ := h; exact ⟨vs, by rw [L2.upd_ne hne]; exact e, r⟩
  | obj C fs => obtain ⟨dx, vs, e, r⟩ := h; exact ⟨dx, vs, by rw [L2.upd_ne hne]; exact e, r⟩
  | xdc fs => obtain ⟨vs, e, r⟩ := h; exact ⟨vs, by rw [L2.upd_ne hne]; exact e, r⟩
  | dik ds => obtain ⟨vs, e, k, r⟩ := h; exact ⟨vs, by rw [L2.upd_ne hne]; exact e, k, r⟩
  | dit ds => obtain ⟨vs, e, k, r⟩ := h; exact ⟨vs, by rw [L2.upd_ne hne]; exact e, k, r⟩
  | _ => exact h.elim
/-- the cell a gets o, which is d' -/
theorem Rl.write {a : Addr} {o : HO} (r : Rl K G0 H0 bs G H cs) (hc : (a, d) ∈ cs) (ho : Cell K G (upd H a o) a d') : Rl K G0 H0 bs G (upd H a o) (setC a d' cs) := by
  have ga := (r.wl.cell _ hc).1
  refine ⟨⟨fun b u e => ?_, fun c h => ?_, by rw [setC_fst]; exact r.wl.nd⟩, r.g0, fun b u e hb => ?_, r.nw, fun c h => ?_, fun b hb => ?_, r.b0⟩
  · rw [L2.upd_ne (ne_of_none e ga)]
    exact r.wl.sub b u e
  · rcases mem_setC r.wl.nd h with rfl | ⟨h1, h2⟩
    · exact ⟨ga, ho⟩
    · exact ⟨(r.wl.cell c h1).1, (r.wl.cell c h1).2.upd_ne h2⟩
  · have hne : b ≠ a := fun z => by
      subst z
      rcases r.cl _ hc with h | h
      · exact hb h
      · rw [show H0 b = none from h] at e
        cases e
    rw [L2.upd_ne hne]
    exact r.h0 b u e hb
  · rcases mem_setC r.wl.nd h with rfl | ⟨h1, _⟩
    · exact r.cl (a, d) hc
    · exact r.cl c h1
  · by_cases h : b = a
    · subst h
      exact ⟨o, upd_same⟩
    · rw [L2.upd_ne h]
      exact r.bd b hb
theorem sv_app {a : Addr} {ds : List D} (hc : (a, .lst ds) ∈ cs) (ho : Ev K ta ρ cs (.any (.ref a))) (h : Ev K te ρ cs d) (hz : ds.length < 100000) (k : P.nx ρ (setC a (.lst (ds ++ [d])) cs)) :
    Sv K W bs (tDrop (tBM K "list" rAppend ta (tCons te tNil))) ρ cs P := fun G0 H0 G H σ E r e o => ho G H σ r.wl e _ fun v G2 H2 n rv => by
  cases rv
  have r2 := r.step n
  obtain ⟨_, vs, hv, _⟩ := r2.wl.cell _ hc
  refine ⟨Or.inl ⟨rfl, vs, .inl (.inl hv)⟩, h G2 H2 σ r2.wl (e.mono n.g) _ fun y G3 H3 n3 ry => ?_⟩
  have r3 := r2.step n3
  obtain ⟨_, us, hu, ru⟩ := r3.wl.cell _ hc
  refine ⟨a, us, y, rfl, rfl, hu, by rw [ru.length]; exact Evl.sz_lt hz, ?_⟩
  exact o.nx G3 _ σ ρ _ (r3.write (d' := .lst (ds ++ [d])) hc ⟨us ++ [y], upd_same, ru.append (.one ry)⟩) ((e.mono n.g).mono n3.g) k
theorem sv_appN {a : Addr} {ds es : List D} (hc : (a, .lst ds) ∈ cs) (ho : Ev K ta ρ cs (.any (.ref a))) (h : EvN K te ρ cs es) (hz : ds.length < 100000) (k : P.nx ρ (setC a (.lst (ds ++ [.lst es])) cs)) :
    Sv K W bs (tDrop (tBM K "list" rAppend ta (tCons te tNil))) ρ cs P := sv_app hc ho h.ev hz k
theorem _root_.Lv.RepF.put {f : Str} {v : V} {d : D} (h : Rep K G v d) : ∀ {vs : List (Str × V)} {ds : List (Str × D)}, RepF K G vs ds → RepF K G (putF f v vs) (putD f d ds)
  | _, _, .nil => .cons h .nil
  | _, _, .cons (f := g) h1 h2 => by
    unfold putF putD
    by_cases hg : g = f
    · rw [if_pos hg, if_pos hg]
      exact .cons h h2
    · rw [if_neg hg, if_neg hg]
      exact .cons h1 (RepF.put h h2)
/-- o.f = e -/
theorem sv_fld {a C : Addr} {f : Str} {fs : List (Str × D)} (hc : (a, .obj C fs) ∈ cs) (h : Ev K te ρ cs d) (ho : Ev K ta ρ cs (.any (.ref a))) (c : Cls K C) (na : NoAttr K C f) (hl : fs.length < 1000) (k : P.nx ρ (setC a (.obj C (putD f d fs)) cs)) :
    Sv K W bs (sFld K ta te f) ρ cs P := fun G0 H0 G H σ E r e o => h G H σ r.wl e _ fun v G2 H2 n rv => ho G2 H2 σ (r.step n).wl (e.mono n.g) _ fun u G3 H3 n3 ru => by
  cases ru
  have r3 := (r.step n).step n3
  obtain ⟨_, dx, vs, hu, rf⟩ := r3.wl.cell _ hc
  refine ⟨a, C, dx, vs, rfl, hu, c, na, by rw [rf.length]; exact hl, ?_⟩
  refine o.nx G3 _ σ ρ _ (r3.write (d' := .obj C (putD f d fs)) hc ⟨dx, putF f v vs, upd_same, ?_⟩) ((e.mono n.g).mono n3.g) k
  exact rf.put (rv.mono n3.g)
/-! ### loops -/
/-- a higher floor for the pure part -/
theorem Rl.floor (r : Rl K G0 H0 bs G H cs) : Rl K G H0 bs G H cs := ⟨r.wl, Ex.refl _, r.h0, fun a o h z => absurd (h.symm.trans z) (by simp), r.cl, r.bd, r.b0⟩
theorem Rl.back (r1 : Rl K G0 H0 bs G1 H1 cs) {cs2 : Cs} (r : Rl K G1 H0 bs G H cs2) : Rl K G0 H0 bs G H cs2 := ⟨r.wl, r1.g0.trans r.g0, r.h0, fun a o h z => by
  cases h1 : G1 a with
  | none => exact r.nw a o h h1
  | some u => exact r1.nw a u h1 z, r.cl, r.bd, r.b0⟩
/-- by an invariant over the turn, the slots and the cells; the cell that is walked (if one is) stays -/
theorem sv_for {wi : TI} {g : TG} {src : Cs} {ds : List D} (hi : EvI K wi ρ cs src ds) (I : Nat → Ro → Cs → Prop) (h0 : I 0 ρ cs) (hk : ∀ i ρ' cs', I i ρ' cs' → ∀ c ∈ src, c ∈ cs')
    (hs : ∀ (i : Nat) d ρ' cs', ds[i]? = some d → I i ρ' cs' → ∃ ρ1 js, EvG K g d ρ' ρ1 js ∧ Sv K W bs t ρ1 cs' { P with nx := I (i + 1), ct := I (i + 1), bk := P.nx })
    (hd : ∀ ρ' cs', I ds.length ρ' cs' → P.nx ρ' cs') : Sv K W bs (tFor wi g t) ρ cs P := fun G0 H0 G H σ E r e o => by
  refine hi G H σ r.wl e _ fun J G1 H1 n1 hsrc its => ?_
  have r1 := r.step n1
  refine ⟨fun i m σ' H' => m = ds.length - i ∧ i ≤ ds.length ∧ ∃ G' ρ' cs', Rl K G1 H0 bs G' H' cs' ∧ Env K G' σ' ρ' ∧ I i ρ' cs', ⟨ds.length, rfl, Nat.zero_le _, G1, ρ, cs, r1.floor, e.mono n1.g, h0⟩, fun i m σ' H' hW => ?_⟩
  obtain ⟨rfl, hle, G', ρ', cs', r', e', inv⟩ := hW
  have hs' := hk i ρ' cs' inv
  by_cases hlt : i < ds.length
  · have hat : ds[i]? = some ds[i] := List.getElem?_eq_getElem hlt
    obtain ⟨go, yl⟩ := its.go i _ G' H' cs' hat r'.g0 r'.wl hs'
    refine .inr ⟨go, fun σ2 H2 => i + 1 ≤ ds.length ∧ ∃ G' ρ' cs', Rl K G1 H0 bs G' H2 cs' ∧ Env K G' σ2 ρ' ∧ I (i + 1) ρ' cs', fun σ2 H2 h => ⟨ds.length - (i + 1), by omega, rfl, h.1, h.2⟩, fun x H2 hy => ?_⟩
    obtain ⟨G4, n4, rx⟩ := yl x H2 hy
    obtain ⟨ρ1, js, hg, hb⟩ := hs i _ ρ' cs' hat inv
    refine hg G4 H2 σ' x n4.s (e'.mono n4.g) rx _ fun σ2 e2 _ => hb G1 H0 G4 H2 σ2 _ (r'.step n4) e2 ⟨fun G H σ ρ cs r e k => ?_, fun G H v d cs r rv k => ?_, fun G H σ ρ cs r e k => ?_, fun G H σ ρ cs r e k => ?_, fun G H σ ρ cs cls dd fs r e xr xn k => ?_⟩
    · exact ⟨by omega, G, ρ, cs, r, e, k⟩
    · exact o.rt G H v d cs (r1.back r) rv k
    · exact o.nx G H σ ρ cs (r1.back r) e k
    · exact ⟨by omega, G, ρ, cs, r, e, k⟩
    · exact o.ex G H σ ρ cs cls dd fs (r1.back r) e xr xn k
  · refine .inl ⟨its.stop i G' H' cs' (by omega) r'.g0 r'.wl hs', o.nx G' H' σ' ρ' cs' (r1.back r') e' (hd ρ' cs' ?_)⟩
    rw [show ds.length = i by omega]
    exact inv
theorem sv_while (I : Nat → Ro → Cs → Prop) (m0 : Nat) (h0 : I m0 ρ cs)
    (hs : ∀ m ρ' cs', I m ρ' cs' → ∃ b, EvT K tt ρ' cs' b ∧ (b = true → Sv K W bs t ρ' cs' { P with nx := fun ρ2 cs2 => ∃ m', m' < m ∧ I m' ρ2 cs2, ct := fun ρ2 cs2 => ∃ m', m' < m ∧ I m' ρ2 cs2, bk := P.nx }) ∧ (b = false → P.nx ρ' cs')) : Sv K W bs (tWhile tt t) ρ cs P := fun G0 H0 G H σ E r e o => by
  refine ⟨fun m σ' H' => ∃ G' ρ' cs', Rl K G0 H0 bs G' H' cs' ∧ Env K G' σ' ρ' ∧ I m ρ' cs', ⟨m0, G, ρ, cs, r, e, h0⟩, fun m σ' H' hW => ?_⟩
  obtain ⟨G', ρ', cs', r', e', inv⟩ := hW
  obtain ⟨b, ht, h1, h2⟩ := hs m ρ' cs' inv
  refine ht G' H' σ' r'.wl e' _ fun G2 H2 n => ?_
  cases b with
  | true =>
    refine ⟨fun σ2 H2 => ∃ m', m' < m ∧ ∃ G' ρ' cs', Rl K G0 H0 bs G' H2 cs' ∧ Env K G' σ2 ρ' ∧ I m' ρ' cs', fun σ2 H2 h => h, ?_⟩
    refine h1 rfl G0 H0 G2 H2 σ' _ (r'.step n) (e'.mono n.g) ⟨fun G H σ ρ cs r e k => ?_, o.rt, o.nx, fun G H σ ρ cs r e k => ?_, o.ex⟩
    · obtain ⟨m', hm, k⟩ := k
      exact ⟨m', hm, G, ρ, cs, r, e, k⟩
    · obtain ⟨m', hm, k⟩ := k
      exact ⟨m', hm, G, ρ, cs, r, e, k⟩
  | false => exact o.nx G2 H2 σ' ρ' cs' (r'.step n) (e'.mono n.g) (h2 rfl)
/-! ### a cell is frozen: from now on it is data -/
/-- ρ' is ρ, where some slots that hold the cell a hold the data d -/
def frz (a : Addr) (d : D) : Ro → Ro → Prop
  | [], [] => True
  | x :: r, y :: s => (x = y ∨ (x = some (.any (.ref a)) ∧ y = some d)) ∧ frz a d r s
  | _, _ => False
theorem frz.length {a : Addr} {d : D} : ∀ {r s : Ro}, frz a d r s → r.length = s.length
  | [], [], _ => rfl
  | _ :: r, _ :: s, h => by rw [List.length_cons, List.length_cons, frz.length (r := r) (s := s) h.2]
  | [], _ :: _, h => h.elim
  | _ :: _, [], h => h.elim
theorem frz.get {a : Addr} {d : D} : ∀ {r s : Ro} {i : Nat} {x : D}, frz a d r s → s[i]? = some (some x) → r[i]? = some (some x) ∨ (r[i]? = some (some (.any (.ref a))) ∧ x = d)
  | [], [], _, _, _, e => by simp at e
  | y :: r, z :: s, 0, x, h, e => by
    rw [List.getElem?_cons_zero] at e ⊢
    cases e
    rcases h.1 with q | ⟨q, h2⟩
    · rw [q]; exact .inl rfl
    · cases h2; rw [q]; exact .inr ⟨rfl, rfl⟩
  | y :: r, z :: s, i + 1, x, h, e => by
    rw [List.getElem?_cons_succ] at e ⊢
    exact frz.get (r := r) (s := s) h.2 e
  | [], _ :: _, _, _, h, _ => h.elim
  | _ :: _, [], _, _, h, _ => h.elim
def delC (a : Addr) (cs : Cs) : Cs := cs.filter fun c => decide (c.1 ≠ a)
def frzOk : D → Bool
  | .lst _ => true
  | .obj _ _ => true
  | .dik _ => true
  | .dit _ => true
  | _ => false
theorem Rl.freeze {a : Addr} {σ : L2.St} (r : Rl K G0 H0 bs G H cs) (e : Env K G σ ρ) (hc : (a, d) ∈ cs) (hb : a ∉ bs) (hf : frz a d ρ ρ1) (hok : frzOk d = true) : ∃ G', Rl K G0 H0 bs G' H (delC a cs) ∧ Env K G' σ ρ1 := by
  obtain ⟨ga, cl⟩ := r.wl.cell _ hc
  obtain ⟨o, ho⟩ := cl.some
  have h0 : H0 a = none := by
    rcases r.cl _ hc with h | h
    · exact absurd h hb
    · exact h
  have gx : Ex G (upd G a o) := Ex.new ga
  have rd : Rep K (upd G a o) (.ref a) d := by
    cases d with
    | lst ds =>
      obtain ⟨vs, h1, h2⟩ := cl
      cases ho.symm.trans h1
      exact .lst upd_same (h2.mono gx)
    | obj C fs =>
      obtain ⟨dx, vs, h1, h2⟩ := cl
      cases ho.symm.trans h1
      exact .obj upd_same (h2.mono gx)
    | dik ds =>
      obtain ⟨vs, h1, k, h2⟩ := cl
      cases ho.symm.trans h1
      exact .dik upd_same k (h2.mono gx)
    | dit ds =>
      obtain ⟨vs, h1, k, h2⟩ := cl
      cases ho.symm.trans h1
      exact .dit upd_same k (h2.mono gx)
    | xdc fs => cases hok
    | _ => exact cl.elim
  refine ⟨upd G a o, ⟨⟨fun b u h => ?_, fun c h => ?_, ?_⟩, r.g0.trans gx, r.h0, fun b u h z => ?_, fun c h => r.cl c (List.mem_filter.mp h).1, r.bd, r.b0⟩, ⟨e.len.trans hf.length, fun i x h => ?_⟩⟩
  · by_cases hb : b = a
    · subst hb; rw [upd_same] at h; rw [ho]; exact h
    · rw [L2.upd_ne hb] at h; exact r.wl.sub b u h
  · obtain ⟨h1, h2⟩ := List.mem_filter.mp h
    have hne : c.1 ≠ a := of_decide_eq_true h2
    obtain ⟨g1, c1⟩ := r.wl.cell c h1
    exact ⟨by rw [L2.upd_ne hne]; exact g1, c1.mono gx (Ex.refl _)⟩
  · exact (List.Sublist.map (fun c : Addr × D => c.1) (List.filter_sublist (p := fun c : Addr × D => decide (c.1 ≠ a)) (l := cs))).nodup r.wl.nd
  · by_cases hb : b = a
    · subst hb; exact h0
    · rw [L2.upd_ne hb] at h; exact r.nw b u h z
  · rcases hf.get h with h | ⟨h, hx⟩
    · obtain ⟨v, h1, h2⟩ := e.at_ i x h
      exact ⟨v, h1, h2.mono gx⟩
    · obtain ⟨v, h1, h2⟩ := e.at_ i _ h
      cases h2
      subst hx
      exact ⟨_, h1, rd⟩
theorem sv_freeze {a : Addr} (ρ1 : Ro) (hc : (a, d) ∈ cs) (hb : a ∉ bs) (hf : frz a d ρ ρ1) (hok : frzOk d = true) (k : Sv K W bs t ρ1 (delC a cs) P) : Sv K W bs t ρ cs P := fun G0 H0 G H σ E r e o => by
  obtain ⟨G', r', e'⟩ := r.freeze e hc hb hf hok
  exact k G0 H0 G' H σ E r' e' o
/-- a cell is forgotten -/
theorem sv_forget {cs2 : Cs} (k : Sv K W bs t ρ cs2 P) (h : ∀ c ∈ cs2, c ∈ cs) (nd : (cs2.map (·.1)).Nodup) : Sv K W bs t ρ cs P := fun G0 H0 G H σ E r e o =>
  k G0 H0 G H σ E ⟨⟨r.wl.sub, fun c hc => r.wl.cell c (h c hc), nd⟩, r.g0, r.h0, r.nw, fun c hc => r.cl c (h c hc), r.bd, r.b0⟩ e o
end
end Lv

namespace Lv
open PySem L2
open Evl (Ex)
/-! ### what a def gives -/
inductive Out where
  | ret (d : D)
  | new (ds : List D)
  | exc (cls : Value) (fs : Option (List (Str × D)))
def Gets (K : PySem.W.Frag) (G H : Hp) (Q : VK) (E : XK) : Out → Prop
  | .ret d => ∀ v G2 H2, Nx G H G2 H2 → Rep K G2 v d → Q v H2
  | .new ds => ∀ p us G2 H2, Nx G H G2 H2 → H p = none → G2 p = none → H2 p = some (.lst us) → RepL K G2 us ds → Q (.ref p) H2
  | .exc cls fs => ∀ dd G2 H2, Nx G H G2 H2 → Xr K G2 H2 dd fs → Xn H G2 [] dd → E cls dd H2
/-- the def gives o of the data ds where A ds o -/
def spO (K : PySem.W.Frag) (n : Nat) (A : List D → Out → Prop) : Sp := fun vs H Q E => ∃ G ds o, Ex G H ∧ RepL K G vs ds ∧ ds.length = n ∧ A ds o ∧ Gets K G H Q E o
def poOf (o : Out) : Po where
  nx := fun _ _ => o = .ret .non
  rt := fun d cs => match o with
    | .ret d' => d = d'
    | .new ds => ∃ a, d = .any (.ref a) ∧ (a, .lst ds) ∈ cs
    | .exc _ _ => False
  ex := fun _ _ cls fs => o = .exc cls fs
def startD (N : List Str) (ds : List D) : Ro := ds.map some ++ List.replicate (N.length - ds.length) none
abbrev Wd (E : XK) : WX := fun cls d _ H => E cls d H
section
variable {K : PySem.W.Frag} {G G0 G1 G2 H H0 H1 H2 H3 G3 : Hp} {ρ ρ1 : Ro} {cs : Cs} {ta tb te tx : TE} {tt : TT} {d d' e x y z : D} {W : WX} {bs : List Addr} {P : Po} {t u : TS}
theorem spO_ret {n : Nat} {A : List D → Out → Prop} {ds : List D} (h : A ds (.ret z)) (hn : ds.length = n) : SpD K (spO K n A) ds z := fun G H vs s r Q E q => ⟨G, ds, .ret z, s, r, hn, h, q⟩
theorem spO_new {n : Nat} {A : List D → Out → Prop} {ds zs : List D} (h : A ds (.new zs)) (hn : ds.length = n) : SpN K (spO K n A) ds zs := fun G H vs s r Q E q => ⟨G, ds, .new zs, s, r, hn, h, q⟩
theorem start_env {N : List Str} {vs : List V} {ds : List D} (r : RepL K G vs ds) : Env K G (start N vs) (startD N ds) := by
  unfold L2.start startD
  rw [r.length]
  refine ⟨by simp [r.length], fun i d h => ?_⟩
  by_cases hi : i < ds.length
  · rw [List.getElem?_append_left (by simpa using hi), List.getElem?_map] at h
    rw [List.getElem?_append_left (by rw [List.length_map, r.length]; exact hi), List.getElem?_map]
    cases hd : ds[i]? with
    | none => rw [hd] at h; cases h
    | some x =>
      rw [hd] at h
      cases h
      obtain ⟨v, h1, h2⟩ := r.get hd
      exact ⟨v, by rw [h1]; rfl, h2⟩
  · rw [List.getElem?_append_right (by simpa using hi), List.getElem?_replicate] at h
    split at h <;> cases h
theorem rl_start (s : Ex G H) : Rl K G H [] G H [] := ⟨⟨s, fun c h => by simp at h, by simp⟩, Ex.refl _, fun a o h _ => h, fun a o h z => absurd (h.symm.trans z) (by simp), fun c h => by simp at h, fun b h => by simp at h, fun b h => by simp at h⟩
theorem Rl.nx (r : Rl K G0 H0 [] G H cs) : Nx G0 H0 G H := ⟨r.g0, fun a o h => r.h0 a o h (by simp), r.wl.sub, r.nw⟩
theorem run_of {N : List Str} {vs : List V} {ds : List D} {o : Out} {Q : VK} {E : XK} (s : Ex G H) (r : RepL K G vs ds) (h : Sv K (Wd E) [] t (startD N ds) [] (poOf o)) (q : Gets K G H Q E o) : t { nx := fun _ H' => Q .non H', rt := Q } (start N vs) H := by
  refine h G H G H (start N vs) _ (rl_start s) (start_env r) ⟨fun G2 H2 σ ρ cs rl e k => ?_, fun G2 H2 v d cs rl rv k => ?_, fun _ _ _ _ _ _ _ k => k.elim, fun _ _ _ _ _ _ _ k => k.elim, fun G2 H2 σ ρ cs cls dd fs rl e xr xn k => ?_⟩
  · have k' : o = .ret .non := k
    subst k'
    exact q _ G2 H2 rl.nx .non
  · cases o with
    | ret d' =>
      have k' : d = d' := k
      subst k'
      exact q v G2 H2 rl.nx rv
    | new ds =>
      obtain ⟨a, rfl, hc⟩ := (show ∃ a, d = .any (.ref a) ∧ (a, .lst ds) ∈ cs from k)
      cases rv
      obtain ⟨ga, vs, hv, rr⟩ := rl.wl.cell _ hc
      have h0 : H a = none := by
        rcases rl.cl _ hc with z | z
        · simp at z
        · exact z
      exact q a vs G2 H2 rl.nx h0 ga hv rr
    | exc c f => exact (show False from k).elim
  · have k' : o = .exc cls fs := k
    subst k'
    exact q dd G2 H2 rl.nx xr (fun p hp => ⟨(xn p hp).1, (xn p hp).2.1, fun c hc => by simp at hc⟩)
end
/-! ### a def by its name -/
theorem passN {X : Cx} : Passes (L2N.CX X.prog X.w) X E0 := fun _ _ _ _ _ _ _ h => by
  obtain ⟨_, _, _, _, _, _, _, _, _, _, _, _, z⟩ := h
  exact z.elim
theorem takesN0 {X : Cx} : L2N.Takes X (fun _ _ _ _ => False) := fun _ _ x => by
  obtain ⟨_, _, _, _, _, _, _, _, _, _, _, _, _, _, _, _, z⟩ := x
  exact z.elim
structure Fx (P : Program) (w : World) (K : PySem.W.Frag) (mg : Str → Option Value) (base : Heap) (k : Nat) (x : Str) (ps : List Str) (sp : Sp) : Prop where
  ex : ∃ f fd, FnOk P w K mg base (L2N.CX P w) k f fd ps sp ∧ mg x = some (.ref f) ∧ PySem.W.keepIn K (.ref f) = true ∧ Binds K fd ps []
section
variable {P : Program} {w : World} {K : PySem.W.Frag} {mg : Str → Option Value} {base : Heap}
abbrev cxN (P : Program) (w : World) (K : PySem.W.Frag) (mg : Str → Option Value) (base : Heap) (N : List Str) (qual : Str) (st : Stmt) (f : Addr) (cdv : Value) (A' : Around) (outer : List PySem.Env) (s : Shared) (H : Hp) (E : XK) : Cx := cxOf (L2N.CX P w) P w K mg base N qual (defScope st) f cdv A' outer s H E
theorem fn_okD {x qual : Str} {st : Stmt} {f : Addr} {fd : FuncData} {N ps : List Str} {k n : Nat} {A : List D → Out → Prop} (F : Fun K x qual st f fd) (S : FnScope N ps (defScope st)) (hn : ps.length = n)
    (hbody : ∀ (cdv : Value) (A' : Around) (outer : List PySem.Env) (s : Shared) (H : Hp) (E : XK), Room k (cxN P w K mg base N qual st f cdv A' outer s H E).A → L2N.Takes (cxN P w K mg base N qual st f cdv A' outer s H E) (Wd E) →
      PassesOwn (model P w) (cxN P w K mg base N qual st f cdv A' outer s H E).A (cxN P w K mg base N qual st f cdv A' outer s H E).env (cxN P w K mg base N qual st f cdv A' outer s H E).xe →
      ∃ t, PSs (cxN P w K mg base N qual st f cdv A' outer s H E) (defBody st) t ∧ ∀ ds o, ds.length = n → A ds o → Sv K (Wd E) [] t (startD N ds) [] (poOf o)) :
    FnOk P w K mg base (L2N.CX P w) (k + 1) f fd ps (spO K n A) := by
  obtain ⟨oc, od, kV, doc, pm, an, cdv, ct, osl, rfl, lk, hcd⟩ := F.ex
  refine fn_of lk hcd S (fun vs H Q E h => ?_) (fun A' outer s H vs Q E hr h => ?_)
  · obtain ⟨G, ds, o, _, r, h1, _⟩ := h
    rw [r.length, h1, hn]
  · obtain ⟨G, ds, o, hs, r, h1, h2, q⟩ := h
    obtain ⟨t, ht, hv⟩ := hbody cdv A' outer s H E hr (L2N.takes_of rfl rfl rfl rfl) (passes_of rfl)
    exact ⟨t, ht, run_of hs r (hv ds o h1 h2) q⟩
end
section
variable {X : Cx} {k j : Nat} {x : Str} {ps : List Str} {sp : Sp} {e : Expr} {es : List Expr} {t : TA} {p pos : Pos}
theorem pe_callF (F : Fx X.prog X.w X.K X.mg X.base j x ps sp) (hr : Room k X.A) (ha : PA X (e :: es) t) (hj : j ≤ k := by decide) (hg : Gl X x := by rfl) (hdb : (x == ("__debug__" : Str)) = false := by decide)
    (he : starEach (e :: es) X.env = (false, eval e X.env) :: starEach es X.env := by rfl) (hpl : (backTo pos (starEach es X.env)).any (·.1) = false := by rfl) : PE X (.Call (.Name x p) (e :: es) [] pos) (tCall sp [] E0 t) := by
  obtain ⟨f, fd, G, m, kp, b⟩ := F.ex
  exact pe_call G (hr.mono hj) hg m kp b .nil passN ha hdb he hpl
theorem pe_callFS {W : WX} (tk : L2N.Takes X W) (F : Fx X.prog X.w X.K X.mg X.base j x ps sp) (hr : Room k X.A) (ha : PA X (e :: es) t) (hj : j ≤ k := by decide) (hg : Gl X x := by rfl) (hdb : (x == ("__debug__" : Str)) = false := by decide)
    (he : starEach (e :: es) X.env = (false, eval e X.env) :: starEach es X.env := by rfl) (hpl : (backTo pos (starEach es X.env)).any (·.1) = false := by rfl) : PE X (.Call (.Name x p) (e :: es) [] pos) (tCallS sp (WE W) t) := by
  obtain ⟨f, fd, G, m, kp, b⟩ := F.ex
  exact pe_callS G (hr.mono hj) hg m kp b (fun σ => L2N.passAt tk σ) ha hdb he hpl
def uTru (K : PySem.W.Frag) (te : TE) : TT := fun σ H Q => te σ H fun x H' => ∃ k, TruV K x H' k ∧ Q k H'
theorem pt_tru {a : Expr} {ta : TE} (ha : PE X a ta) (he : ∀ whole, isTrue a X.env whole = (do let v ← whole; standAt a.pos; holding [v] (truthy v)) := by intro _; rfl) : PT X a (uTru X.K ta) := pt_truth ha he
end
theorem et_truB {K : PySem.W.Frag} {te : TE} {ρ : Ro} {cs : Cs} {b : Bool} (h : Ev K te ρ cs (.bl b)) : EvT K (uTru K te) ρ cs b := fun G H σ w e Q q => h G H σ w e _ fun v G2 H2 n r => by
  cases r
  exact ⟨b, rfl, q G2 H2 n⟩
theorem et_truL {K : PySem.W.Frag} {te : TE} {ρ : Ro} {cs : Cs} {ds : List D} (h : EvR K te ρ cs (.lst ds)) : EvT K (uTru K te) ρ cs (!ds.isEmpty) := fun G H σ w e Q q => h G H σ w e _ fun v G2 H2 n r => by
  obtain ⟨a, vs, rfl, ha, ra⟩ := r.seqL (w.step n)
  refine ⟨!ds.isEmpty, .inl ⟨vs, .inl (.inl ha), ?_⟩, q G2 H2 n⟩
  have := ra.length
  cases ds <;> cases vs <;> simp_all
end Lv

namespace Lv
open PySem L2
open Evl (Ex)
theorem u65 {A : Around} {k : Nat} (hr : Room k A) : A.units + 65 < cLine := by have := hr.un; omega
/-! ### == with scalars -/
def uEq (K : PySem.W.Frag) : R2 := fun x y H Q => rEq x y H Q ∨ rEqD K x y H Q
def uNe (K : PySem.W.Frag) : R2 := fun x y H Q => rNe x y H Q ∨ rNeD K x y H Q
theorem op_uEq {X : Cx} (hu : X.A.units + 64 < cLine) : OpR X (compareOp .Eq) (uEq X.K) := op_eq.or (op_eqD hu)
theorem op_uNe {X : Cx} (hu : X.A.units + 64 < cLine) : OpR X (compareOp .NotEq) (uNe X.K) := op_ne.or (op_neD hu)
section
variable {K : PySem.W.Frag} {G G0 G1 G2 H H0 H1 H2 H3 G3 : Hp} {ρ ρ1 : Ro} {cs : Cs} {ta tb te tx : TE} {tt : TT} {d d' e x y z : D} {W : WX} {bs : List Addr} {P : Po} {t u v : TS}
theorem opd_eqI {i j : Int} : OpD K (uEq K) cs (.int i) (.int j) (.bl (decide (i = j))) := fun G H vx vy w rx ry Q q => .inl (by
  cases rx.int w
  cases ry.int w
  refine ⟨rfl, ?_⟩
  rw [show decide (V.int i = V.int j) = decide (i = j) from decide_eq_decide.mpr ⟨fun h => V.int.inj h, fun h => by rw [h]⟩]
  exact q _ G H (Nx.refl w.sub) (.bl _))
theorem opd_neI {i j : Int} : OpD K (uNe K) cs (.int i) (.int j) (.bl (!decide (i = j))) := fun G H vx vy w rx ry Q q => .inl (by
  cases rx.int w
  cases ry.int w
  refine ⟨rfl, ?_⟩
  rw [show decide (V.int i = V.int j) = decide (i = j) from decide_eq_decide.mpr ⟨fun h => V.int.inj h, fun h => by rw [h]⟩]
  exact q _ G H (Nx.refl w.sub) (.bl _))
theorem opd_eqS {i j : Str} : OpD K (uEq K) cs (.str i) (.str j) (.bl (decide (i = j))) := fun G H vx vy w rx ry Q q => .inl (by
  cases rx.str w
  cases ry.str w
  refine ⟨rfl, ?_⟩
  rw [show decide (V.str i = V.str j) = decide (i = j) from decide_eq_decide.mpr ⟨fun h => V.str.inj h, fun h => by rw [h]⟩]
  exact q _ G H (Nx.refl w.sub) (.bl _))
theorem opd_neS {i j : Str} : OpD K (uNe K) cs (.str i) (.str j) (.bl (!decide (i = j))) := fun G H vx vy w rx ry Q q => .inl (by
  cases rx.str w
  cases ry.str w
  refine ⟨rfl, ?_⟩
  rw [show decide (V.str i = V.str j) = decide (i = j) from decide_eq_decide.mpr ⟨fun h => V.str.inj h, fun h => by rw [h]⟩]
  exact q _ G H (Nx.refl w.sub) (.bl _))
theorem opd_eqB {i j : Bool} : OpD K (uEq K) cs (.bl i) (.bl j) (.bl (decide (i = j))) := fun G H vx vy w rx ry Q q => .inl (by
  cases rx.bl w
  cases ry.bl w
  refine ⟨rfl, ?_⟩
  rw [show decide (V.bl i = V.bl j) = decide (i = j) from decide_eq_decide.mpr ⟨fun h => V.bl.inj h, fun h => by rw [h]⟩]
  exact q _ G H (Nx.refl w.sub) (.bl _))
theorem opd_neB {i j : Bool} : OpD K (uNe K) cs (.bl i) (.bl j) (.bl (!decide (i = j))) := fun G H vx vy w rx ry Q q => .inl (by
  cases rx.bl w
  cases ry.bl w
  refine ⟨rfl, ?_⟩
  rw [show decide (V.bl i = V.bl j) = decide (i = j) from decide_eq_decide.mpr ⟨fun h => V.bl.inj h, fun h => by rw [h]⟩]
  exact q _ G H (Nx.refl w.sub) (.bl _))
theorem opd_eqU {n : Nat} (hn : n ≤ 64) (hx : ok n x = true) (hy : ok n y = true) : OpD K (uEq K) cs x y (.bl (eqD x y)) := fun G H vx vy w rx ry Q q => .inr (opd_eq hn hx hy G H vx vy w rx ry Q q)
theorem opd_neU {n : Nat} (hn : n ≤ 64) (hx : ok n x = true) (hy : ok n y = true) : OpD K (uNe K) cs x y (.bl (!eqD x y)) := fun G H vx vy w rx ry Q q => .inr (opd_ne hn hx hy G H vx vy w rx ry Q q)
/-! ### a statement and what follows -/
theorem q_set {i : Nat} (h : Ev K te ρ cs d) (k : Sv K W bs u (ρ.set i (some d)) cs P) : Sv K W bs (tSeq (tAsg te (gName i)) u) ρ cs P := sv_seq (sv_set h k)
theorem q_setN {i : Nat} {ds : List D} (h : EvN K te ρ cs ds) (k : ∀ a, a ∉ bs → (∀ c ∈ cs, c.1 ≠ a) → Sv K W bs u (ρ.set i (some (.any (.ref a)))) ((a, .lst ds) :: cs) P) : Sv K W bs (tSeq (tAsg te (gName i)) u) ρ cs P := sv_seq (sv_setN h k)
theorem q_asg {g : TG} {js : List Nat} (h : Ev K te ρ cs d) (hg : EvG K g d ρ ρ1 js) (k : Sv K W bs u ρ1 cs P) : Sv K W bs (tSeq (tAsg te g) u) ρ cs P := sv_seq (sv_asg h hg k)
theorem q_drop (h : Ev K te ρ cs d) (k : Sv K W bs u ρ cs P) : Sv K W bs (tSeq (tDrop te) u) ρ cs P := sv_seq (sv_drop h k)
/-- if c: return .. (no else, the body does not fall through) -/
theorem q_if {b : Bool} (h : EvT K tt ρ cs b) (h1 : b = true → Sv K W bs t ρ cs { P with nx := fun ρ' cs' => Sv K W bs u ρ' cs' P }) (h2 : b = false → Sv K W bs v ρ cs { P with nx := fun ρ' cs' => Sv K W bs u ρ' cs' P }) : Sv K W bs (tSeq (tIfS tt t v) u) ρ cs P := sv_seq (sv_if h h1 h2)
theorem q_when {b : Bool} (h : EvT K tt ρ cs b) (h1 : b = true → Sv K W bs t ρ cs { P with nx := fun ρ' cs' => Sv K W bs u ρ' cs' P }) (h2 : b = false → Sv K W bs u ρ cs P) : Sv K W bs (tSeq (tIfS tt t tNext) u) ρ cs P := sv_seq (sv_if h h1 fun hb => sv_next (h2 hb))
theorem sv_when {b : Bool} (h : EvT K tt ρ cs b) (h1 : b = true → Sv K W bs t ρ cs P) (h2 : b = false → P.nx ρ cs) : Sv K W bs (tIfS tt t tNext) ρ cs P := sv_if h h1 fun hb => sv_next (h2 hb)
theorem q_app {a : Addr} {ds : List D} {cs2 : Cs} (hc : (a, .lst ds) ∈ cs) (ho : Ev K ta ρ cs (.any (.ref a))) (h : Ev K te ρ cs d) (hz : ds.length < 100000) (hs : setC a (.lst (ds ++ [d])) cs = cs2) (k : Sv K W bs u ρ cs2 P) :
    Sv K W bs (tSeq (tDrop (tBM K "list" rAppend ta (tCons te tNil))) u) ρ cs P := sv_seq (sv_app hc ho h hz (by rw [hs]; exact k))
theorem setC_0 {a : Addr} {d d' : D} {cs : Cs} : setC a d' ((a, d) :: cs) = (a, d') :: cs := by rw [setC, if_pos rfl]
theorem setC_1 {a b : Addr} {d d' e : D} {cs : Cs} (h : b ≠ a) : setC a d' ((b, e) :: (a, d) :: cs) = (b, e) :: (a, d') :: cs := by rw [setC, if_neg h, setC, if_pos rfl]
theorem setC_2 {a b c : Addr} {d d' e f : D} {cs : Cs} (h : b ≠ a) (h2 : c ≠ a) : setC a d' ((b, e) :: (c, f) :: (a, d) :: cs) = (b, e) :: (c, f) :: (a, d') :: cs := by rw [setC, if_neg h, setC, if_neg h2, setC, if_pos rfl]
theorem delC_0 {a : Addr} {d : D} {cs : Cs} (h : ∀ c ∈ cs, c.1 ≠ a) : delC a ((a, d) :: cs) = cs := by
  unfold delC
  rw [List.filter_cons_of_neg (by simp), List.filter_eq_self]
  exact fun c hc => decide_eq_true (h c hc)
/-- over a list of n turns, the state behind i turns as functions of i -/
theorem q_forF {wi : TI} {g : TG} {src : Cs} {ds : List D} (hi : EvI K wi ρ cs src ds) (R : Nat → Ro) (C : Nat → Cs) (h0 : le (R 0) ρ) (hc0 : cs = C 0) (hk : ∀ i, ∀ c ∈ src, c ∈ C i)
    (hs : ∀ (i : Nat) d, ds[i]? = some d → ∃ ρ1 js, EvG K g d (R i) ρ1 js ∧ Sv K W bs t ρ1 (C i) { P with nx := fun ρ' cs' => le (R (i + 1)) ρ' ∧ cs' = C (i + 1), ct := fun ρ' cs' => le (R (i + 1)) ρ' ∧ cs' = C (i + 1), bk := fun ρ' cs' => Sv K W bs u ρ' cs' P })
    (hd : Sv K W bs u (R ds.length) (C ds.length) P) : Sv K W bs (tSeq (tFor wi g t) u) ρ cs P := by
  refine sv_seq (sv_for hi (fun i ρ' cs' => le (R i) ρ' ∧ cs' = C i) ⟨h0, hc0⟩ (fun i ρ' cs' h => by rw [h.2]; exact hk i) (fun i d ρ' cs' hd h => ?_) (fun ρ' cs' h => ?_))
  · obtain ⟨ρ1, js, hg, hb⟩ := hs i d hd
    refine ⟨ρ1, js, fun G H σ v s e r Q q => hg G H σ v s (e.le h.1) r Q q, ?_⟩
    rw [h.2]
    exact hb
  · rw [h.2]
    exact hd.le h.1
theorem le_set : ∀ {ρ : Ro} {i : Nat} {d : D}, ρ[i]? = some (some d) → le (ρ.set i (some d)) ρ
  | [], _, _, h => by simp at h
  | x :: r, 0, d, h => by
    rw [List.getElem?_cons_zero] at h
    cases h
    exact le.refl _
  | none :: r, i + 1, d, h => le_set (ρ := r) (i := i) (by simpa using h)
  | some x :: r, i + 1, d, h => ⟨rfl, le_set (ρ := r) (i := i) (by simpa using h)⟩
/-- if c: x = e, told by the value x has behind it -/
theorem q_ifset {i : Nat} {b : Bool} (h : EvT K tt ρ cs b) (h1 : b = true → Ev K te ρ cs d) (h2 : b = false → ρ[i]? = some (some d)) (k : Sv K W bs u (ρ.set i (some d)) cs P) : Sv K W bs (tSeq (tIfS tt (tAsg te (gName i)) tNext) u) ρ cs P :=
  q_when h (fun hb => sv_set (h1 hb) k) (fun hb => k.le (le_set (h2 hb)))
/-- for x in range(n) -/
theorem q_forR {ta : TA} {j n : Nat} (hi : EvA K ta ρ cs [.int (n : Int)]) (hn : n ≤ 100000) (R : Nat → Ro) (C : Nat → Cs) (h0 : le (R 0) ρ) (hc0 : cs = C 0)
    (hs : ∀ i, i < n → Sv K W bs t ((R i).set j (some (.int (i : Int)))) (C i) { P with nx := fun ρ' cs' => le (R (i + 1)) ρ' ∧ cs' = C (i + 1), ct := fun ρ' cs' => le (R (i + 1)) ρ' ∧ cs' = C (i + 1), bk := fun ρ' cs' => Sv K W bs u ρ' cs' P })
    (hd : Sv K W bs u (R n) (C n) P) : Sv K W bs (tSeq (tFor (iRng1 ta) (gName j) t) u) ρ cs P := by
  refine q_forF (ei_rng1 hi hn) R C h0 hc0 (fun i c h => by simp at h) (fun i d h => ?_) ?_
  · rw [List.getElem?_map] at h
    cases hr : (List.range n)[i]? with
    | none => rw [hr] at h; cases h
    | some m =>
      have hi : i < n := by
        have := (List.getElem?_eq_some_iff.mp hr).1
        simpa using this
      rw [List.getElem?_range hi] at h
      cases h
      exact ⟨_, _, eg_name, hs i hi⟩
  · rw [List.length_map, List.length_range]
    exact hd
/-- for x in a list or tuple of data -/
theorem q_forL {α : Type} {xs : List α} {enc : α → D} {wi : TI} {j : Nat} {src : Cs} (hi : EvI K wi ρ cs src (xs.map enc)) (R : Nat → Ro) (C : Nat → Cs) (h0 : le (R 0) ρ) (hc0 : cs = C 0) (hk : ∀ i, ∀ c ∈ src, c ∈ C i)
    (hs : ∀ (i : Nat) a, xs[i]? = some a → Sv K W bs t ((R i).set j (some (enc a))) (C i) { P with nx := fun ρ' cs' => le (R (i + 1)) ρ' ∧ cs' = C (i + 1), ct := fun ρ' cs' => le (R (i + 1)) ρ' ∧ cs' = C (i + 1), bk := fun ρ' cs' => Sv K W bs u ρ' cs' P })
    (hd : Sv K W bs u (R xs.length) (C xs.length) P) : Sv K W bs (tSeq (tFor wi (gName j) t) u) ρ cs P := by
  refine q_forF hi R C h0 hc0 hk (fun i d h => ?_) ?_
  · rw [List.getElem?_map] at h
    cases hr : xs[i]? with
    | none => rw [hr] at h; cases h
    | some m =>
      rw [hr] at h
      cases h
      exact ⟨_, _, eg_name, hs i m hr⟩
  · rw [List.length_map]
    exact hd
theorem sv_retc {i : Nat} {a : Addr} {ds : List D} (h : ρ[i]? = some (some (.any (.ref a)))) (hc : (a, .lst ds) ∈ cs) : Sv K W bs (tRet (tVar i)) ρ cs (poOf (.new ds)) := sv_ret (ev_var h) ⟨a, rfl, hc⟩
end
end Lv

namespace Lv
open PySem L2
open Evl (Ex)
section
variable {X : Cx} {e : Expr} {es : List Expr} {ta : TA} {p pos : Pos}
/-- X(e, ..), X's own __init__ keeping sp; the exception's context is None -/
theorem pmk_oexN {CX : CXT} {x : Str} {C fI : Addr} {k : Nat} {fd : FuncData} {ps : List Str} {sp : Sp} (T : OexC X.K C) (iC : PySem.W.findIn X.K (.ref C) "__init__" = some (some (.ref fI))) (tI : PySem.W.typeIn X.K (.ref fI) = some (.type "function"))
    (F1 : FnOk X.prog X.w X.K X.mg X.base CX k fI fd ps sp) (hr : Room (k + 1) X.A) (hb : Binds X.K fd ps []) (hx : Passes CX X E0) (hg : Gl X x) (hm : X.mg x = some (.ref C)) (ha : PA X (e :: es) ta)
    (hdb : (x == ("__debug__" : Str)) = false := by decide) (he : starEach (e :: es) X.env = (false, eval e X.env) :: starEach es X.env := by rfl) (hpl : (backTo pos (starEach es X.env)).any (·.1) = false := by rfl) :
    L2N.PMk X (.Call (.Name x p) (e :: es) [] pos) (tMkO C sp [] ta) := by
  intro pins s σ H Q I h
  have T' := T
  obtain ⟨nm, q, N, bs, bm, sn, sub, ab, col, dd, k0, k1, k2, k3, k5, hC, hbm⟩ := T'.cls
  refine wpAny_Call_Name_kw (ld_glob I hg hm ?_ hdb)
  have hargs := ha.run pos pins s σ H _ I h
  refine PySem.W.callWith_K (h₀ := X.base) I.ok.mod.kin T.kC (thn hargs fun us s1 hu => ?_) he hpl
  obtain ⟨vs, H1, I1, r1, hz, q1⟩ := hu
  refine ⟨I1.kIn, ?_⟩
  show wpAny _ _ (call (.ref C) us) _ _ _
  obtain ⟨hp, g, dr, tk, os⟩ := s1
  let a := hp.objs.size + 1
  have ha1 : hp.objs.size ≤ a := Nat.le_succ _
  have hn : H1 a = none := I1.hok.fresh ha1
  have hq := q1 a hn
  let hp2 := (hp.push (PySem.W.kdv_tup us)).push (PySem.HandSPX.excO C hp.objs.size)
  have kk : ∀ b o, hp.get? b = some o → hp2.get? b = some o := fun b o z => Heap.get?_push_of_some _ (Heap.get?_push_of_some _ z)
  have hget : hp2.get? a = some (PySem.HandSPX.excO C hp.objs.size) := by
    show ((hp.push (PySem.W.kdv_tup us)).push (PySem.HandSPX.excO C hp.objs.size)).get? (hp.objs.size + 1) = _
    heap_get
  have I2 : Inv X pins σ (upd H1 a (exo a C none)) ⟨hp2, g, dr, tk, os⟩ := I1.laid (t' := tk) (a := a) (o := exo a C none) (h' := hp2) kk ha1 (exo_ok hget)
  have r2 : Vals (V.ref a :: (vs ++ [])) (Value.ref a :: us) := by
    rw [List.append_nil]
    exact .cons rfl r1
  have hl : (Value.ref a :: us ++ ([] : List Value)).length = ps.length := by
    have z := r2.length
    rw [F1.len _ _ _ _ hq] at z
    rw [List.append_nil]
    exact z.symm
  have hus : us.length ≤ sizeLine := by
    rw [← Paired.length r1, sizeLine_eq]
    omega
  have bnd := hb _ (Value.ref a :: us) I2.kIn hl
  rw [List.append_nil] at bnd
  refine wpAny_call (PySem.HandSPX.call_own F.excBase_ValueError (fun Y => PySem.HandSPX.refsVE_contains Y bm hbm) (I1.kIn _ _ hC) (PySem.W.looks_findIn I1.kIn iC) (fun self => PySem.W.bind_fn I1.kIn self tI) hus
    (codeAny_mono (F1.run _ X.stack _ _ ⟨Value.ref a :: us, []⟩ (Value.ref a :: us) _ _ E0 (hr.make C us []) (I2.env0.make C us []) bnd r2 hq) fun r s' hq' => ?_))
  cases r with
  | error er => exact hx pins σ _ _ er s' I2 hq'
  | ok fl =>
    cases fl with
    | ret u =>
      obtain ⟨v, H2, os2, bare2, un2, hok2, rv, ev, d, fs, ea, ed, hd1, q2⟩ := hq'
      subst ev
      obtain ⟨h2, g2, d2, t2, os'⟩ := s'
      obtain ⟨t0, Gh, J, kG, ge, hoe, na⟩ := mk_end0 (d2 := d2) (t2 := t2) I1 ha1 kk un2 hok2 os2 bare2 ea ed hd1
      exact ⟨rv, a, _, _, ⟨Gh, g2, d2, t2, os'⟩, _, .ref C, some d, rfl, J, kG, ge, hoe, ⟨rfl, rfl, fun vs e => by cases e; rfl⟩, rfl, rfl, na, rfl, bare2, raises_own T.exC T.tyC, q2⟩
    | next => exact False.elim hq'
    | brk => exact False.elim hq'
    | cont => exact False.elim hq'
end
/-- what an exception's __init__(self, f): self.f = f keeps -/
def spXI (K : PySem.W.Frag) (f : Str) : Sp := fun vs H Q _ => ∃ (a C : Addr) (v : V), vs = [.ref a, v] ∧ OexC K C ∧ PySem.W.findIn K (.ref C) f = some none ∧ H a = some (exo a C none) ∧ ∀ dx, H dx = none → dx ≠ a → Q .non (upd (upd H dx (exd dx [(f, v)])) a (exo a C (some dx)))
/-- an exception class of the program with one field -/
structure Xc (P : Program) (w : World) (K : PySem.W.Frag) (mg : Str → Option Value) (base : Heap) (x f : Str) (C : Addr) : Prop where
  oex : OexC K C
  gx : mg x = some (.ref C)
  nf : PySem.W.findIn K (.ref C) f = some none
  ini : ∃ fI fd, PySem.W.findIn K (.ref C) "__init__" = some (some (.ref fI)) ∧ PySem.W.typeIn K (.ref fI) = some (.type "function") ∧ FnOk P w K mg base (L2N.CX P w) 1 fI fd ["self", f] (spXI K f) ∧ Binds K fd ["self", f] []
theorem pmk_oexF {X : Cx} {e : Expr} {ta : TA} {p pos : Pos} {x f : Str} {C : Addr} {k : Nat} (T : Xc X.prog X.w X.K X.mg X.base x f C) (hr : Room k X.A) (ha : PA X [e] ta) (hk : 2 ≤ k := by decide) (hg : Gl X x := by rfl)
    (hdb : (x == ("__debug__" : Str)) = false := by decide) (he : starEach [e] X.env = (false, eval e X.env) :: starEach [] X.env := by rfl) (hpl : (backTo pos (starEach [] X.env)).any (·.1) = false := by rfl) :
    L2N.PMk X (.Call (.Name x p) [e] [] pos) (tMkO C (spXI X.K f) [] ta) := by
  obtain ⟨fI, fd, h1, h2, h3, h4⟩ := T.ini
  exact pmk_oexN T.oex h1 h2 h3 (hr.mono hk) h4 passN hg T.gx ha hdb he hpl
/-- an exception class of the program without fields, made with a text -/
structure Xo (K : PySem.W.Frag) (mg : Str → Option Value) (x : Str) (C : Addr) : Prop where
  gx : mg x = some (.ref C)
  ex : PySem.W.excIn K C [.type "ValueError", .type "Exception", .type "BaseException", .type "object"] "ValueError.__new__" = true
  kp : PySem.W.keepIn K (.ref C) = true
  sb : PySem.W.subIn K (.ref C) (.type "BaseException") = some true
  ty : PySem.W.typeIn K (.ref C) = some (.type "type")
theorem pmk_ownF {X : Cx} {x m : Str} {j : Nat} {p p2 pos : Pos} {C : Addr} (T : Xo X.K X.mg x C) (hg : Gl X x := by rfl) (hdb : (x == ("__debug__" : Str)) = false := by decide) : L2N.PMk X (.Call (.Name x p) [.Constant (.str m) j p2] [] pos) (fun _ H Q => Q (.ref C) none H) :=
  L2N.pmk_own PySem.F.excBase_ValueError T.ex T.gx T.kp (raises_own T.sb T.ty) hg hdb
section
variable {K : PySem.W.Frag} {G G0 G1 G2 H H0 H1 H2 H3 G3 : Hp} {ρ ρ1 : Ro} {cs : Cs} {ta tb te tx : TE} {tt : TT} {d d' e x y z : D} {W : WX} {bs : List Addr} {P : Po} {t u v : TS}
theorem sv_raiseF {ta : TA} {C : Addr} {f : Str} (T : OexC K C) (nf : PySem.W.findIn K (.ref C) f = some none) (h : EvA K ta ρ cs [d]) (k : P.ex ρ cs (.ref C) (some [(f, d)])) :
    Sv K W bs (fun _ σ H => tMkO C (spXI K f) [] ta σ H fun cls d H' => W cls d σ H') ρ cs P := fun G0 H0 G H σ E r e o => h G H σ r.wl e _ fun vs G2 H2 n rv => by
  cases rv with
  | @cons y _ _ _ ry r1 =>
    cases r1
    refine ⟨by simp, fun a ha => ⟨a, C, y, rfl, T, nf, upd_same, fun dx hdx hne => ⟨rfl, dx, [(f, y)], upd_same, ?_, ?_, ?_⟩⟩⟩
    · rw [upd_ne hne, upd_same]
    · rw [upd_ne hne] at hdx
      exact hdx
    · have hdx2 : H2 dx = none := by
        rw [upd_ne hne] at hdx
        exact hdx
      have eH : upd (del (upd (upd (upd H2 a (exo a C none)) dx (exd dx [(f, y)])) a (exo a C (some dx))) a) dx (.xd [(f, y)]) = upd H2 dx (.xd [(f, y)]) := by
        funext b
        unfold upd del
        by_cases hb : b = dx
        · simp [hb]
        · by_cases hba : b = a
          · simp [hb, hba, ha]
          · simp [hb, hba]
      have r2 := r.step n
      have n3 : Nx G2 H2 G2 (upd H2 dx (.xd [(f, y)])) := Nx.newc n.s hdx2
      have q := o.ex G2 (upd H2 dx (.xd [(f, y)])) σ ρ cs (.ref C) (some dx) (some [(f, d)]) (r2.step n3) (e.mono n.g) ⟨dx, [(f, y)], rfl, upd_same, .cons ry .nil⟩ (fun p hp => by
        cases hp
        have z := r2.none0 hdx2
        exact ⟨z.1, Evl.fresh_back n.s hdx2, z.2.2⟩) k
      rw [← eH] at q
      exact q
theorem sv_raiseO {C : Addr} (k : P.ex ρ cs (.ref C) none) : Sv K W bs (fun _ σ H => (fun (_ : L2.St) (H : Hp) (Q : XK) => Q (.ref C) none H) σ H fun cls d H' => W cls d σ H') ρ cs P := fun G0 H0 G H σ E r e o => o.ex G H σ ρ cs (.ref C) none none r e rfl (fun p hp => by cases hp) k
/-! ### a call that may raise -/
def SpX (K : PySem.W.Frag) (sp : Sp) (ds : List D) (o : Out) : Prop := ∀ G H vs, Ex G H → RepL K G vs ds → ∀ (Q : VK) (E : XK), Gets K G H Q E o → sp vs H Q E
theorem spO_x {n : Nat} {A : List D → Out → Prop} {ds : List D} {o : Out} (h : A ds o) (hn : ds.length = n) : SpX K (spO K n A) ds o := fun G H vs s r Q E q => ⟨G, ds, o, s, r, hn, h, q⟩
theorem SpX.sd {sp : Sp} {ds : List D} (h : SpX K sp ds (.ret z)) : SpD K sp ds z := fun G H vs s r Q E q => h G H vs s r Q E q
/-- a value, or an exception that leaves -/
def EvE (K : PySem.W.Frag) (W : WX) (te : TE) (ρ : Ro) (cs : Cs) (o : Out) : Prop := ∀ G H σ, Wl K G H cs → Env K G σ ρ → ∀ Q : VK, Gets K G H Q (WE W σ) o → te σ H Q
theorem Ev.ee (h : Ev K te ρ cs z) : EvE K W te ρ cs (.ret z) := fun G H σ w e Q q => h G H σ w e Q q
theorem gets_step {Q : VK} {E : XK} {o : Out} (n : Nx G H G2 H2) (q : Gets K G H Q E o) : Gets K G2 H2 Q E o := by
  cases o with
  | ret d => exact fun v G3 H3 n3 r => q v G3 H3 (n.trans n3) r
  | new ds => exact fun p us G3 H3 n3 hp gp h3 r => q p us G3 H3 (n.trans n3) (Evl.fresh_back n.h hp) gp h3 r
  | exc cls fs => exact fun dd G3 H3 n3 x xn => q dd G3 H3 (n.trans n3) x fun p hp => ⟨Evl.fresh_back n.h (xn p hp).1, (xn p hp).2.1, (xn p hp).2.2⟩
theorem ee_callS {sp : Sp} {ta : TA} {ds : List D} {o : Out} (h : EvA K ta ρ cs ds) (hs : SpX K sp ds o) : EvE K W (tCallS sp (WE W) ta) ρ cs o := fun G H σ w e Q q =>
  h G H σ w e _ fun vs G2 H2 n rs => hs G2 H2 vs n.s rs Q _ (gets_step n q)
theorem ev_callS {sp : Sp} {ta : TA} {ds : List D} (h : EvA K ta ρ cs ds) (hs : SpD K sp ds z) : Ev K (tCallS sp (WE W) ta) ρ cs z := fun G H σ w e Q q =>
  h G H σ w e _ fun vs G2 H2 n rs => hs G2 H2 vs n.s rs Q _ fun v G3 H3 n3 r => q v G3 H3 (n.trans n3) r
theorem en_callS {sp : Sp} {ta : TA} {ds zs : List D} (h : EvA K ta ρ cs ds) (hs : SpN K sp ds zs) : EvN K (tCallS sp (WE W) ta) ρ cs zs := fun G H σ w e Q q =>
  h G H σ w e _ fun vs G2 H2 n rs => hs G2 H2 vs n.s rs Q _ fun p us G3 H3 n3 hp gp h3 r => q p us G3 H3 (n.trans n3) (Evl.fresh_back n.h hp) gp h3 r
/-- a statement e, which raises -/
theorem sv_dropX {cls : Value} {fs : Option (List (Str × D))} (h : EvE K W te ρ cs (.exc cls fs)) (k : P.ex ρ cs cls fs) : Sv K W bs (tDrop te) ρ cs P := fun G0 H0 G H σ E r e o =>
  h G H σ r.wl e _ fun dd G2 H2 n x xn => o.ex G2 H2 σ ρ cs cls dd fs (r.step n) (e.mono n.g) x (fun p hp => ⟨(r.none0 (xn p hp).1).1, (xn p hp).2.1, (r.none0 (xn p hp).1).2.2⟩) k
theorem sv_asgX {g : TG} {cls : Value} {fs : Option (List (Str × D))} (h : EvE K W te ρ cs (.exc cls fs)) (k : P.ex ρ cs cls fs) : Sv K W bs (tAsg te g) ρ cs P := fun G0 H0 G H σ E r e o =>
  h G H σ r.wl e _ fun dd G2 H2 n x xn => o.ex G2 H2 σ ρ cs cls dd fs (r.step n) (e.mono n.g) x (fun p hp => ⟨(r.none0 (xn p hp).1).1, (xn p hp).2.1, (r.none0 (xn p hp).1).2.2⟩) k
theorem sv_retX {cls : Value} {fs : Option (List (Str × D))} (h : EvE K W te ρ cs (.exc cls fs)) (k : P.ex ρ cs cls fs) : Sv K W bs (tRet te) ρ cs P := fun G0 H0 G H σ E r e o =>
  h G H σ r.wl e _ fun dd G2 H2 n x xn => o.ex G2 H2 σ ρ cs cls dd fs (r.step n) (e.mono n.g) x (fun p hp => ⟨(r.none0 (xn p hp).1).1, (xn p hp).2.1, (r.none0 (xn p hp).1).2.2⟩) k
/-! ### try .. except X as n -/
def exC (dd : Option Addr) (fs : Option (List (Str × D))) (cs : Cs) : Cs := match dd, fs with
  | some p, some fs => (p, .xdc fs) :: cs
  | _, _ => cs
def ddOk (dd : Option Addr) (fs : Option (List (Str × D))) : Prop := dd.isSome = fs.isSome
theorem sv_try {tb : WX → TS} {ts : Addr → Value → Option Addr → TS} {c : Value} {i : Nat}
    (h : ∀ W', Sv K W' bs (tb W') ρ cs { P with ex := fun ρ' cs' cls fs => ∃ b, PySem.W.exmOne K cls c = some b ∧
      (b = true → ∀ a dd, ddOk dd fs → (∀ p, dd = some p → p ∉ bs ∧ ∀ c ∈ cs', c.1 ≠ p) → Sv K W bs (ts a cls dd) (ρ'.set i (some (.any (.ref a)))) (exC dd fs cs') { nx := fun ρ2 cs2 => P.nx (ρ2.set i none) cs2, rt := P.rt, bk := fun ρ2 cs2 => P.bk (ρ2.set i none) cs2, ct := fun ρ2 cs2 => P.ct (ρ2.set i none) cs2, ex := P.ex }) ∧ (b = false → P.ex ρ' cs' cls fs) }) :
    Sv K W bs (fun D σ H => tb (wAs K c i ts W D) D σ H) ρ cs P := fun G0 H0 G H σ E r e o => by
  refine h _ G0 H0 G H σ E r e ⟨o.nx, o.rt, o.bk, o.ct, fun G2 H2 σ2 ρ2 cs2 cls dd fs r2 e2 x xn k => ?_⟩
  obtain ⟨b, hb, k1, k2⟩ := k
  refine ⟨b, hb, fun hbt a ha => ?_, fun hbf => o.ex G2 H2 σ2 ρ2 cs2 cls dd fs r2 e2 x xn (k2 hbf)⟩
  have key : ∀ cs3, Rl K G0 H0 bs G2 H2 cs3 → Sv K W bs (ts a cls dd) (ρ2.set i (some (.any (.ref a)))) cs3 { nx := fun ρ2 cs2 => P.nx (ρ2.set i none) cs2, rt := P.rt, bk := fun ρ2 cs2 => P.bk (ρ2.set i none) cs2, ct := fun ρ2 cs2 => P.ct (ρ2.set i none) cs2, ex := P.ex } →
      ts a cls dd { nx := fun σ' H' => E.nx (σ'.set i none) H', rt := E.rt, bk := fun σ' H' => E.bk (σ'.set i none) H', ct := fun σ' H' => E.ct (σ'.set i none) H' } (σ2.set i (some (.ref a))) H2 := fun cs3 r3 k3 =>
    k3 G0 H0 G2 H2 _ _ r3 (e2.set i (.any _)) ⟨fun G H σ ρ cs r e k => o.nx G H _ _ cs r (e.setN i) k, o.rt, fun G H σ ρ cs r e k => o.bk G H _ _ cs r (e.setN i) k, fun G H σ ρ cs r e k => o.ct G H _ _ cs r (e.setN i) k, o.ex⟩
  cases fs with
  | none =>
    have hd : dd = none := x
    subst hd
    exact key cs2 r2 (k1 hbt a none rfl (fun p hp => by cases hp))
  | some fs =>
    obtain ⟨p, vs, rfl, hp, rf⟩ := x
    obtain ⟨z0, z1, z2⟩ := xn p rfl
    have hb : p ∉ bs := fun hb => by
      obtain ⟨o', ho⟩ := r2.b0 p hb
      rw [z0] at ho
      cases ho
    refine key ((p, .xdc fs) :: cs2) ⟨⟨r2.wl.sub, fun c h => ?_, ?_⟩, r2.g0, r2.h0, r2.nw, fun c h => ?_, r2.bd, r2.b0⟩ (k1 hbt a (some p) rfl (fun q hq => by cases hq; exact ⟨hb, z2⟩))
    · rcases List.mem_cons.mp h with rfl | h
      · exact ⟨z1, vs, hp, rf⟩
      · exact r2.wl.cell c h
    · rw [List.map_cons, List.nodup_cons]
      refine ⟨fun h => ?_, r2.wl.nd⟩
      obtain ⟨c, h1, h2⟩ := List.mem_map.mp h
      exact z2 c h1 h2
    · rcases List.mem_cons.mp h with rfl | h
      · exact .inr z0
      · exact r2.cl c h
end
end Lv

namespace Lv
open PySem L2
open Evl (Ex)
/-- a method of the class at C -/
structure Mx (P : Program) (w : World) (K : PySem.W.Frag) (mg : Str → Option Value) (base : Heap) (k : Nat) (C : Addr) (m : Str) (ps : List Str) (sp : Sp) : Prop where
  cls : Cls K C
  ex : ∃ f fd, Meth K C m f ∧ FnOk P w K mg base (L2N.CX P w) k f fd ps sp ∧ Binds K fd ps []
/-- a class at C that is made by its __init__ -/
structure Cx1 (P : Program) (w : World) (K : PySem.W.Frag) (mg : Str → Option Value) (base : Heap) (k : Nat) (x : Str) (C : Addr) (ps : List Str) (sp : Sp) : Prop where
  gx : mg x = some (.ref C)
  ex : ∃ f fd, Mk K C f ∧ FnOk P w K mg base (L2N.CX P w) k f fd ps sp ∧ Binds K fd ps []
def tMethW (C : Addr) (m : Str) (sp : Sp) (E : L2.St → XK) (ta : TE) (t : TA) : TE := fun σ H Q => ta σ H fun x H1 => ∃ a dx fs, x = .ref a ∧ H1 a = some (.ins C dx fs) ∧ fs.lookup m = none ∧ t σ H1 fun vs H2 => sp (x :: vs) H2 Q (E σ)
def tMakeS (C : Addr) (sp : Sp) (E : L2.St → XK) (t : TA) : TE := fun σ H Q => t σ H fun vs H1 => ∀ x dx, H1 x = none → H1 dx = none → dx ≠ x →
  sp (.ref x :: vs) (upd (upd H1 dx (.own x)) x (.ins C dx [])) (fun v H2 => v = .non ∧ Q (.ref x) H2) (E σ)
section
variable {X : Cx} {k j : Nat} {f C : Addr} {fd : FuncData} {ps : List Str} {sp : Sp} {x m : Str} {p pos apos : Pos} {e o : Expr} {es : List Expr} {ta tb : TE} {t : TA} {W : WX}
theorem pe_methF {pl : Sem Bool} (M : Mx X.prog X.w X.K X.mg X.base j C m ps sp) (hr : Room k X.A) (ho : PE X o ta) (ha : PA X (e :: es) t) (hj : j ≤ k := by decide)
    (hst : starEach (e :: es) X.env = (false, eval e X.env) :: starEach es X.env := by rfl) (hpl : (backTo pos (starEach es X.env)).any (·.1) = false := by rfl)
    (ht : eval (.Call (.Attribute o m apos) (e :: es) [] pos) X.env = (do
      let ov ← eval o X.env
      standAt apos.atName
      let (f, first) ← holding [ov] (getMethod ov m pl)
      callWith pos f first (backTo pos (starEach (e :: es) X.env)) (backToKw pos (keywordEach [] X.env))) := by rfl) : PE X (.Call (.Attribute o m apos) (e :: es) [] pos) (tMeth C m sp [] E0 ta t) := by
  obtain ⟨f, fd, h1, h2, h3⟩ := M.ex
  exact pe_meth ho M.cls h1 h2 (hr.mono hj) h3 .nil passN ha hst hpl ht
theorem pe_methFS {pl : Sem Bool} (tk : L2N.Takes X W) (M : Mx X.prog X.w X.K X.mg X.base j C m ps sp) (hr : Room k X.A) (ho : PE X o ta) (ha : PA X (e :: es) t) (hj : j ≤ k := by decide)
    (hst : starEach (e :: es) X.env = (false, eval e X.env) :: starEach es X.env := by rfl) (hpl : (backTo pos (starEach es X.env)).any (·.1) = false := by rfl)
    (ht : eval (.Call (.Attribute o m apos) (e :: es) [] pos) X.env = (do
      let ov ← eval o X.env
      standAt apos.atName
      let (f, first) ← holding [ov] (getMethod ov m pl)
      callWith pos f first (backTo pos (starEach (e :: es) X.env)) (backToKw pos (keywordEach [] X.env))) := by rfl) : PE X (.Call (.Attribute o m apos) (e :: es) [] pos) (tMethW C m sp (WE W) ta t) := by
  obtain ⟨f, fd, h1, h2, h3⟩ := M.ex
  refine ⟨fun pins s σ H Q I h => PySem.W.methodCall_KW (pl := pl) (thn (ho.run pins s σ H _ I h) fun u s1 z => ?_) ht⟩
  obtain ⟨y, H1, I1, ry, a, dx, fs, rfl, ea, l, q⟩ := z
  cases ry
  refine getmeth_ok I1 ea M.cls h1 l (PySem.W.callWith_K (first := [.ref a]) (h₀ := X.base) I.ok.mod.kin h1.kp (thn (ha.run pos pins s1 σ H1 _ I1 q) fun us s2 z => ?_) hst hpl)
  obtain ⟨vs, H2, I2, r, q2⟩ := z
  exact ⟨I2.kIn, run_fnS (E := WE W) (us := .ref a :: us) (vs := .ref a :: vs) h2 (hr.mono hj) h3 (L2N.passAt tk σ) I2 (.cons rfl r) q2⟩
theorem pe_methF0 {pl : Sem Bool} (M : Mx X.prog X.w X.K X.mg X.base j C m ps sp) (hr : Room k X.A) (ho : PE X o ta) (hj : j ≤ k := by decide)
    (ht : eval (.Call (.Attribute o m apos) [] [] pos) X.env = (do
      let ov ← eval o X.env
      standAt apos.atName
      let (f, first) ← holding [ov] (getMethod ov m pl)
      callWith pos f first (backTo pos (starEach [] X.env)) (backToKw pos (keywordEach [] X.env))) := by rfl) : PE X (.Call (.Attribute o m apos) [] [] pos) (tMeth C m sp [] E0 ta tNil) := by
  obtain ⟨f, fd, h1, h2, h3⟩ := M.ex
  exact pe_meth0 ho M.cls h1 h2 (hr.mono hj) h3 .nil passN ht
theorem pe_makeF (M : Cx1 X.prog X.w X.K X.mg X.base j x C ps sp) (hr : Room k X.A) (ha : PA X (e :: es) t) (hj : j + 1 ≤ k := by decide) (hg : Gl X x := by rfl) (hdb : (x == ("__debug__" : Str)) = false := by decide)
    (he : starEach (e :: es) X.env = (false, eval e X.env) :: starEach es X.env := by rfl) (hpl : (backTo pos (starEach es X.env)).any (·.1) = false := by rfl) : PE X (.Call (.Name x p) (e :: es) [] pos) (tMake C sp [] E0 t) := by
  obtain ⟨f, fd, h1, h2, h3⟩ := M.ex
  exact pe_make h1 h2 (hr.mono hj) hg M.gx h3 .nil passN ha hdb he hpl
theorem pe_makeFS (tk : L2N.Takes X W) (M : Cx1 X.prog X.w X.K X.mg X.base j x C ps sp) (hr : Room k X.A) (ha : PA X (e :: es) t) (hj : j + 1 ≤ k := by decide) (hg : Gl X x := by rfl) (hdb : (x == ("__debug__" : Str)) = false := by decide)
    (he : starEach (e :: es) X.env = (false, eval e X.env) :: starEach es X.env := by rfl) (hpl : (backTo pos (starEach es X.env)).any (·.1) = false := by rfl) : PE X (.Call (.Name x p) (e :: es) [] pos) (tMakeS C sp (WE W) t) := by
  obtain ⟨f, fd, h1, F, hb⟩ := M.ex
  refine ⟨fun pins s σ H Q I h => wpAny_Call_Name_kw (ld_glob I hg M.gx ?_ hdb)⟩
  refine PySem.W.callWith_K (h₀ := X.base) I.ok.mod.kin h1.kp (thn (ha.run pos pins s σ H _ I h) fun us s1 z => ?_) he hpl
  obtain ⟨vs, H1, I1, r, q⟩ := z
  refine ⟨I1.kIn, ?_⟩
  show wpAny _ _ (call (.ref C) us) _ _ _
  have hq := q (s1.heap.objs.size + 1) s1.heap.objs.size (I1.hok.fresh (Nat.le_succ _)) (I1.hok.fresh (Nat.le_refl _)) (Nat.ne_of_lt (Nat.lt_succ_self _))
  have I2 := Inv.made (C := C) I1
  have r2 : Vals (V.ref (s1.heap.objs.size + 1) :: vs) (Value.ref (s1.heap.objs.size + 1) :: us) := .cons rfl r
  have hl : (Value.ref (s1.heap.objs.size + 1) :: us ++ ([] : List Value)).length = ps.length := by
    have z := r2.length
    rw [F.len _ _ _ _ hq] at z
    rw [List.append_nil]
    exact z.symm
  have bnd := hb _ (Value.ref (s1.heap.objs.size + 1) :: us) I2.kIn hl
  rw [List.append_nil] at bnd
  have hr2 : Room (j + 1) X.A := hr.mono hj
  have run := F.run _ X.stack _ _ ⟨Value.ref (s1.heap.objs.size + 1) :: us, []⟩ _ _ _ (WE W σ) (hr2.make C us []) (I2.env0.make C us []) bnd r2 hq
  refine wpAny_call (make_map (f := f) I1.kIn h1.makes h1.init (beq_iff_eq.mp h1.fn) (codeAny_mono run fun rs s' hq' => ?_))
  cases rs with
  | error er => exact L2N.passAt tk σ pins _ _ er s' I2 hq'
  | ok fl =>
    cases fl with
    | ret u =>
      obtain ⟨v, H', I3, rv, ev, q3⟩ := I2.after hq'
      subst ev
      exact ⟨rv, ⟨V.ref (s1.heap.objs.size + 1), H', I3, rfl, q3⟩⟩
    | next => exact False.elim hq'
    | brk => exact False.elim hq'
    | cont => exact False.elim hq'
/-! ### a op b by the class's own method -/
def tOwn (C : Addr) (sp : Sp) (E : L2.St → XK) (ta tb : TE) : TE := fun σ H Q => ta σ H fun x H1 => tb σ H1 fun y H2 => ∃ a b dx dy fs gs, x = .ref a ∧ y = .ref b ∧ H2 a = some (.ins C dx fs) ∧ H2 b = some (.ins C dy gs) ∧ sp [x, y] H2 Q (E σ)
structure Ox (P : Program) (w : World) (K : PySem.W.Frag) (mg : Str → Option Value) (base : Heap) (k : Nat) (C : Addr) (op : Operator) (ps : List Str) (sp : Sp) : Prop where
  sf : PySem.W.selfFirst K C = true
  ex : ∃ f fd, PySem.W.findIn K (.ref C) (PySem.dunder op.info.2) = some (some (.ref f)) ∧ PySem.W.isFn K (.ref f) = true ∧ FnOk P w K mg base (L2N.CX P w) k f fd ps sp ∧ Binds K fd ps []
theorem cmpBack_of {Q : Value → Shared → Prop} {v : V} {u : Value} {s' : Shared} (r : RelV v u) (q : Q u s') : PySem.W.CmpBack Q u s' := by
  cases v with
  | non => cases r; exact q
  | bl b => cases r; exact q
  | int i => obtain ⟨t, rfl⟩ := r; exact q
  | str i => obtain ⟨t, rfl⟩ := r; exact q
  | byt i => obtain ⟨t, rfl⟩ := r; exact q
  | flt i => obtain ⟨t, rfl⟩ := r; exact q
  | ref i => cases r; exact q
  | ty i => cases r; exact q
theorem own_run {E : L2.St → XK} {op : Operator} {a b : Expr} (O : Ox X.prog X.w X.K X.mg X.base j C op ps sp) (hr : Room k X.A) (hx : ∀ σ, PassesAt (L2N.CX X.prog X.w) X σ (E σ)) (ha : PE X a ta) (hb : PE X b tb) (hj : j ≤ k := by decide) : PE X (.BinOp a op b pos) (tOwn C sp E ta tb) := by
  obtain ⟨f, fd, h1, h2, h3, h4⟩ := O.ex
  refine ⟨fun pins s σ H Q I h => wpAny_BinOp (binT ha hb I h fun v u s2 x y H2 I2 rx ry q => ?_)⟩
  obtain ⟨a, b, dx, dy, fs, gs, rfl, rfl, ea, eb, q⟩ := q
  cases rx
  cases ry
  obtain ⟨mA, J, _⟩ := ins_get I2.hok ea
  obtain ⟨mB, J', _⟩ := ins_get I2.hok eb
  obtain ⟨od, J, _⟩ := J.look
  obtain ⟨od', J', _⟩ := J'.look
  obtain ⟨m, hF⟩ := I2.fr
  refine PySem.W.binop_K hF I2.ok.mod.kin J J'.type O.sf h1 h2 ?_
  refine wpAny_mono (run_fnS (E := E) (us := [.ref a, .ref b]) (vs := [.ref a, .ref b]) h3 (hr.mono hj) h4 (hx σ) I2 (.cons rfl (.cons rfl .nil)) q) (fun r s' z => ?_) fun _ _ z => z
  obtain ⟨v, H', I', rv, q'⟩ := z
  exact cmpBack_of rv ⟨v, H', I', rv, q'⟩
end
end Lv

namespace Lv
open PySem L2
open Evl (Ex)
/-! ### __init__ -/
def GetsI (K : PySem.W.Frag) (C x : Addr) (G H : Hp) (Q : VK) (E : XK) : Out → Prop
  | .ret (.obj C' fs) => C' = C ∧ ∀ G2 H2 dx vs, Rl K G H [x] G2 H2 [] → G2 x = none → H2 x = some (.ins C dx vs) → RepF K G2 vs fs → Q .non H2
  | .exc cls fs => ∀ dd G2 H2, Rl K G H [x] G2 H2 [] → Xr K G2 H2 dd fs → Xn H G2 [] dd → E cls dd H2
  | _ => False
def spI (K : PySem.W.Frag) (C : Addr) (n : Nat) (A : List D → Out → Prop) : Sp := fun vs H Q E => ∃ x dx us G ds o, vs = .ref x :: us ∧ H x = some (.ins C dx []) ∧ G x = none ∧ Ex G H ∧ RepL K G us ds ∧ ds.length = n ∧ A ds o ∧ GetsI K C x G H Q E o
def madeI (C x : Addr) (cs : Cs) : Out → Prop
  | .ret (.obj C' fs) => C' = C ∧ (x, .obj C fs) ∈ cs
  | _ => False
def poI (C x : Addr) (o : Out) : Po where
  nx := fun _ cs => madeI C x cs o
  rt := fun d cs => d = .non ∧ madeI C x cs o
  ex := fun _ _ cls fs => o = .exc cls fs
section
variable {K : PySem.W.Frag} {G G0 G1 G2 H H0 H1 H2 H3 G3 : Hp} {ρ ρ1 : Ro} {cs : Cs} {ta tb te tx : TE} {tt : TT} {d d' e x y z : D} {W : WX} {bs : List Addr} {P : Po} {t u : TS}
theorem Rl.nocs (r : Rl K G0 H0 bs G H cs) : Rl K G0 H0 bs G H [] := ⟨⟨r.wl.sub, fun c h => by simp at h, by simp⟩, r.g0, r.h0, r.nw, fun c h => by simp at h, r.bd, r.b0⟩
theorem run_ofI {N : List Str} {vs : List V} {ds : List D} {o : Out} {Q : VK} {E : XK} {C a dx : Addr} (s : Ex G H) (r : RepL K G vs ds) (ha : H a = some (.ins C dx [])) (ga : G a = none) (h : Sv K (Wd E) [a] t (startD N (.any (.ref a) :: ds)) [(a, .obj C [])] (poI C a o)) (q : GetsI K C a G H Q E o) :
    t { nx := fun _ H' => Q .non H', rt := Q } (start N (.ref a :: vs)) H := by
  have r0 : Rl K G H [a] G H [(a, .obj C [])] := by
    refine ⟨⟨s, fun c hc => ?_, by simp⟩, Ex.refl _, fun b o h _ => h, fun b o h z => absurd (h.symm.trans z) (by simp), fun c hc => ?_, fun b hb => ?_, fun b hb => ?_⟩
    · rw [List.mem_singleton] at hc; subst hc; exact ⟨ga, dx, [], ha, .nil⟩
    · rw [List.mem_singleton] at hc; subst hc; exact .inl (by simp)
    · rw [List.mem_singleton] at hb; subst hb; exact ⟨_, ha⟩
    · rw [List.mem_singleton] at hb; subst hb; exact ⟨_, ha⟩
  have fin : ∀ G2 H2 cs, Rl K G H [a] G2 H2 cs → madeI C a cs o → Q .non H2 := fun G2 H2 cs rl k => by
    cases o with
    | ret d =>
      cases d with
      | obj C' fs =>
        obtain ⟨rfl, hc⟩ := k
        obtain ⟨g2, dx2, vs2, h2, rf⟩ := rl.wl.cell _ hc
        exact q.2 G2 H2 dx2 vs2 rl.nocs g2 h2 rf
      | _ => exact k.elim
    | _ => exact k.elim
  refine h G H G H (start N (.ref a :: vs)) _ r0 (start_env (.cons (.any _) r)) ⟨fun G2 H2 σ ρ cs rl e k => fin G2 H2 cs rl k, fun G2 H2 v d cs rl rv k => ?_, fun _ _ _ _ _ _ _ k => k.elim, fun _ _ _ _ _ _ _ k => k.elim, fun G2 H2 σ ρ cs cls dd fs rl e xr xn k => ?_⟩
  · obtain ⟨rfl, k⟩ := k
    cases rv
    exact fin G2 H2 cs rl k
  · have k' : o = .exc cls fs := k
    subst k'
    exact q dd G2 H2 rl.nocs xr (fun p hp => ⟨(xn p hp).1, (xn p hp).2.1, fun c hc => by simp at hc⟩)
/-- C(..) behind its arguments -/
theorem make_ok {sp : Sp} {n : Nat} {A : List D → Out → Prop} {C : Addr} {ds : List D} {vs : List V} {o : Out} {Q : VK} {E : XK} (s : Ex G H) (r : RepL K G vs ds) (hn : ds.length = n) (hA : A ds o) (ho : match o with | .ret (.obj C' _) => C' = C | .exc _ _ => True | _ => False) (q : Gets K G H Q E o)
    (a dx : Addr) (ha : H a = none) (hdx : H dx = none) (hne : dx ≠ a) : spI K C n A (.ref a :: vs) (upd (upd H dx (.own a)) a (.ins C dx [])) (fun v H2 => v = .non ∧ Q (.ref a) H2) E := by
  have ex : Ex H (upd (upd H dx (.own a)) a (.ins C dx [])) := (Ex.new hdx).mut ha
  have ga : G a = none := Evl.fresh_back s ha
  refine ⟨a, dx, vs, G, ds, o, rfl, upd_same, ga, s.trans ex, r, hn, hA, ?_⟩
  have base : ∀ G2 H2, Rl K G (upd (upd H dx (.own a)) a (.ins C dx [])) [a] G2 H2 [] → Nx G H G2 H2 := fun G2 H2 rl => by
    refine ⟨rl.g0, fun b o hb => ?_, rl.wl.sub, fun b o hb z => Evl.fresh_back ex (rl.nw b o hb z)⟩
    have hba : b ≠ a := ne_of_none hb ha
    exact rl.h0 b o (ex b o hb) (by simpa using hba)
  cases o with
  | ret d =>
    cases d with
    | obj C' fs =>
      have hC : C' = C := ho
      subst hC
      refine ⟨rfl, fun G2 H2 dx2 vs2 rl g2 h2 rf => ⟨rfl, ?_⟩⟩
      exact q (.ref a) _ H2 ((base G2 H2 rl).take ha h2 g2) (.obj upd_same (rf.mono (Ex.new g2)))
    | _ => exact ho.elim
  | new ds => exact ho.elim
  | exc cls fs => exact fun dd G2 H2 rl xr xn => q dd G2 H2 (base G2 H2 rl) xr fun p hp => ⟨Evl.fresh_back ex (xn p hp).1, (xn p hp).2.1, (xn p hp).2.2⟩
theorem ev_make {n : Nat} {A : List D → Out → Prop} {C : Addr} {fs : List (Str × D)} {ta : TA} {ds : List D} {E : XK} (h : EvA K ta ρ cs ds) (hA : A ds (.ret (.obj C fs))) (hn : ds.length = n) : Ev K (tMake C (spI K C n A) [] E ta) ρ cs (.obj C fs) := fun G H σ w e Q q =>
  h G H σ w e _ fun vs G2 H2 nx rs x dx hx hdx hne => by
    rw [List.append_nil]
    exact make_ok (o := .ret (.obj C fs)) (sp := fun _ _ _ _ => True) nx.s rs hn hA rfl (fun v G3 H3 n3 r => q v G3 H3 (nx.trans n3) r) x dx hx hdx hne
theorem ev_makeS {n : Nat} {A : List D → Out → Prop} {C : Addr} {fs : List (Str × D)} {ta : TA} {ds : List D} (h : EvA K ta ρ cs ds) (hA : A ds (.ret (.obj C fs))) (hn : ds.length = n) : Ev K (tMakeS C (spI K C n A) (WE W) ta) ρ cs (.obj C fs) := fun G H σ w e Q q =>
  h G H σ w e _ fun vs G2 H2 nx rs x dx hx hdx hne => make_ok (o := .ret (.obj C fs)) (sp := fun _ _ _ _ => True) nx.s rs hn hA rfl (fun v G3 H3 n3 r => q v G3 H3 (nx.trans n3) r) x dx hx hdx hne
theorem ee_makeS {n : Nat} {A : List D → Out → Prop} {C : Addr} {cls : Value} {fs : Option (List (Str × D))} {ta : TA} {ds : List D} (h : EvA K ta ρ cs ds) (hA : A ds (.exc cls fs)) (hn : ds.length = n) : EvE K W (tMakeS C (spI K C n A) (WE W) ta) ρ cs (.exc cls fs) := fun G H σ w e Q q =>
  h G H σ w e _ fun vs G2 H2 nx rs x dx hx hdx hne => make_ok (o := .exc cls fs) (sp := fun _ _ _ _ => True) nx.s rs hn hA trivial (gets_step nx q) x dx hx hdx hne
/-! ### methods and own operators -/
theorem ev_methW {C : Addr} {m : Str} {sp : Sp} {ta : TE} {t : TA} {fs : List (Str × D)} {ds : List D} (ho : Ev K ta ρ cs (.obj C fs)) (hm : fs.lookup m = none) (h : EvA K t ρ cs ds) (hs : SpD K sp (.obj C fs :: ds) z) : Ev K (tMethW C m sp (WE W) ta t) ρ cs z := fun G H σ w e Q q =>
  ho G H σ w e _ fun v G2 H2 n r => by
    cases r with
    | obj hg rf => exact ⟨_, _, _, rfl, n.s _ _ hg, rf.lookup_none hm, h G2 H2 σ (w.step n) (e.mono n.g) _ fun vs G3 H3 n2 rs => hs G3 H3 _ n2.s (.cons (.obj (n2.g _ _ hg) (rf.mono n2.g)) rs) Q _ fun v G4 H4 n3 r4 => q v G4 H4 ((n.trans n2).trans n3) r4⟩
theorem ee_methW {C : Addr} {m : Str} {sp : Sp} {ta : TE} {t : TA} {fs : List (Str × D)} {ds : List D} {o : Out} (ho : Ev K ta ρ cs (.obj C fs)) (hm : fs.lookup m = none) (h : EvA K t ρ cs ds) (hs : SpX K sp (.obj C fs :: ds) o) : EvE K W (tMethW C m sp (WE W) ta t) ρ cs o := fun G H σ w e Q q =>
  ho G H σ w e _ fun v G2 H2 n r => by
    cases r with
    | obj hg rf => exact ⟨_, _, _, rfl, n.s _ _ hg, rf.lookup_none hm, h G2 H2 σ (w.step n) (e.mono n.g) _ fun vs G3 H3 n2 rs => hs G3 H3 _ n2.s (.cons (.obj (n2.g _ _ hg) (rf.mono n2.g)) rs) Q _ (gets_step (n.trans n2) q)⟩
theorem ee_own {C : Addr} {sp : Sp} {ta tb : TE} {fs gs : List (Str × D)} {o : Out} (ha : Ev K ta ρ cs (.obj C fs)) (hb : Ev K tb ρ cs (.obj C gs)) (hs : SpX K sp [.obj C fs, .obj C gs] o) : EvE K W (tOwn C sp (WE W) ta tb) ρ cs o := fun G H σ w e Q q =>
  ha G H σ w e _ fun v G2 H2 n r => hb G2 H2 σ (w.step n) (e.mono n.g) _ fun u G3 H3 n2 r2 => by
    cases r with
    | obj hg rf =>
      cases r2 with
      | obj hg2 rf2 => exact ⟨_, _, _, _, _, _, rfl, rfl, n2.s _ _ (n2.g _ _ hg), n2.s _ _ hg2, hs G3 H3 _ n2.s (.cons (.obj (n2.g _ _ hg) (rf.mono n2.g)) (.cons (.obj hg2 rf2) .nil)) Q _ (gets_step (n.trans n2) q)⟩
theorem ev_own {C : Addr} {sp : Sp} {E : L2.St → XK} {ta tb : TE} {fs gs : List (Str × D)} (ha : Ev K ta ρ cs (.obj C fs)) (hb : Ev K tb ρ cs (.obj C gs)) (hs : SpD K sp [.obj C fs, .obj C gs] z) : Ev K (tOwn C sp E ta tb) ρ cs z := fun G H σ w e Q q =>
  ha G H σ w e _ fun v G2 H2 n r => hb G2 H2 σ (w.step n) (e.mono n.g) _ fun u G3 H3 n2 r2 => by
    cases r with
    | obj hg rf =>
      cases r2 with
      | obj hg2 rf2 => exact ⟨_, _, _, _, _, _, rfl, rfl, n2.s _ _ (n2.g _ _ hg), n2.s _ _ hg2, hs G3 H3 _ n2.s (.cons (.obj (n2.g _ _ hg) (rf.mono n2.g)) (.cons (.obj hg2 rf2) .nil)) Q _ fun v G4 H4 n3 r4 => q v G4 H4 ((n.trans n2).trans n3) r4⟩
/-! ### isinstance -/
theorem RepC.any {v u : V} (w : Wl K G H cs) (r : RepC K G cs v (.any u)) : v = u := by
  rcases r with r | ⟨a, e, c⟩
  · cases r; rfl
  · exact (w.cell _ c).2.elim
def tyD : D → Option String
  | .non => some "NoneType"
  | .bl _ => some "bool"
  | .int _ => some "int"
  | .str _ => some "str"
  | .lst _ => some "list"
  | .tup _ => some "tuple"
  | _ => none
theorem tyX_of {v : V} {n : String} (w : Wl K G H cs) (r : RepC K G cs v d) (h : tyD d = some n) : TyX K H v (.type n) := by
  cases d with
  | non => cases h; cases r.non w; exact .base .non
  | bl b => cases h; cases r.bl w; exact .base (.bl b)
  | int i => cases h; cases r.int w; exact .base (.int i)
  | str s => cases h; cases r.str w; exact .base (.str s)
  | lst ds => cases h; obtain ⟨a, vs, rfl, ha, _⟩ := r.seqL w; exact .base (.lst ha)
  | tup ds =>
    cases h
    obtain ⟨a, vs, rfl, ha, _⟩ := r.seqT w
    rcases ha with (ha | ⟨o, ha⟩) | ⟨o, its, m, h1, h2, _⟩
    · exact .base (.tup ha)
    · exact .fTuple ha
    · exact .kTuple h1 h2
  | _ => cases h
theorem cd_isi {n m : String} {b : Bool} (h : tyD d = some n) (hb : kitB n m = some b) : CallD K (rIsi K) cs [d, .any (.ty m)] (.bl b) := fun G H vs w r Q q => by
  cases r with
  | cons r0 r1 =>
    cases r1 with
    | cons r2 r3 =>
      cases r3
      cases r2.any w
      exact ⟨_, _, _, _, b, rfl, .ty m, tyX_of w r0 h, kit_ty hb, q _ G H (Nx.refl w.sub) (.bl _)⟩
/-- an own class whose instances isinstance asks -/
structure Ic (K : PySem.W.Frag) (C : Addr) : Prop where
  cl : Cls K C
  ha : PySem.W.findIn K (.ref C) "__class__" = some (some (.builtin "object.__class__"))
  hn : PySem.W.specialIn K (.builtin "object.__class__") "__get__" = some (some (.builtin "getset_descriptor.__get__"))
  ht : PySem.W.takesIn K (.builtin "object.__class__") = some true
  hm : PySem.W.mroIn K C (.type "object") = some true
theorem cd_isiO {C B : Addr} {fs : List (Str × D)} {b : Bool} (I : Ic K C) (hb : PySem.W.kitOne K (.ref C) (.ref B) = some b) : CallD K (rIsi K) cs [.obj C fs, .any (.ref B)] (.bl b) := fun G H vs w r Q q => by
  cases r with
  | cons r0 r1 =>
    cases r1 with
    | cons r2 r3 =>
      cases r3
      cases r2.any w
      obtain ⟨a, dx, us, rfl, ha, _⟩ := r0.objC w
      exact ⟨_, _, _, _, b, rfl, .own B, .base (.ins ha I.cl I.ha I.hn I.ht I.hm), hb, q _ G H (Nx.refl w.sub) (.bl _)⟩
end
/-! ### isinstance of a caught exception, with or without fields -/
/-- what the class at C says of its caught instances -/
structure Ec (K : PySem.W.Frag) (C : Addr) : Prop where
  cl : (PySem.W.clsIn K C).isSome = true
  hg : PySem.W.findIn K (.ref C) "__getattribute__" = some (some (.builtin "BaseException.__getattribute__"))
  hk : PySem.W.findIn K (.ref C) "__getattr__" = some none
  hs : PySem.W.subIn K (.ref C) (.type "BaseException") = some true
  hd : PySem.W.hasDictIn K C = true
  ha : PySem.W.findIn K (.ref C) "__class__" = some (some (.builtin "object.__class__"))
  hn : PySem.W.specialIn K (.builtin "object.__class__") "__get__" = some (some (.builtin "getset_descriptor.__get__"))
  ht : PySem.W.takesIn K (.builtin "object.__class__") = some true
  hm : PySem.W.mroIn K C (.type "object") = some true
def rIsX (K : PySem.W.Frag) (a : Addr) (cls : Value) (d : Option Addr) : List V → Hp → VK → Prop := fun xs H Q => ∃ (C : Addr) (c : V) (cv : Value) (b : Bool), cls = .ref C ∧ Ec K C ∧ xs = [.ref a, c] ∧ ClsV c cv ∧ PySem.W.kitOne K (.ref C) cv = some b ∧ (∀ p, d = some p → ∃ fs, H p = some (.xd fs)) ∧ Q (.bl b) H
theorem call_isX {X : Cx} {a : Addr} {oe : Obj} {cls : Value} {d : Option Addr} {pn : List (Addr × Obj)} (hz : Zc cls d oe) (hf : ∃ vs, oe.data = .fields vs) : CallR (X.suite a ((a, oe) :: pn)) (.builtin "isinstance") (rIsX X.K a cls d) := by
  intro pins s σ H xs us Q I r h
  obtain ⟨C, c, cv, b, rfl, T, rfl, hcv, e, hd, q⟩ := h
  obtain ⟨u1, u2, rfl, r1, r2⟩ := vals2 r
  cases r1
  have e2 := hcv.eq r2
  subst e2
  obtain ⟨hget, _⟩ := I.pin (a, oe) (List.mem_append_left _ List.mem_cons_self)
  obtain ⟨vs, hv⟩ := hf
  have no : PySem.W.notCls oe = true := by unfold PySem.W.notCls; rw [hv] <;> rfl
  have J : ∃ od, PySem.W.InstAt s.heap a oe C od := by
    cases d with
    | none => exact ⟨none, hget, hz.1, no, by rw [hz.2]; trivial⟩
    | some p =>
      obtain ⟨fs, hp⟩ := hd p rfl
      obtain ⟨mA, hns, _⟩ := (show ObjOk X.prog X.w H s.heap p (.xd fs) from I.hok p _ hp)
      obtain ⟨od, ho, _⟩ := lookIn_ns hns
      exact ⟨some od, hget, hz.1, no, by rw [hz.2]; exact ho⟩
  obtain ⟨od, J⟩ := J
  exact PySem.W.kia_one (PySem.W.kitx_exc T.cl T.hg T.hk T.hs T.ha T.hn T.ht T.hm) I.kIn J e (fun z => nomatch z) fun tk => ⟨.bl b, H, I.tok tk, rfl, q⟩
def tXfU (K : PySem.W.Frag) (a : Addr) (cls : Value) (d : Option Addr) (f : Str) (te : TE) : TE := fun σ H Q => ∃ C, Ec K C ∧ PySem.W.findIn K (.ref C) f = some none ∧ tXf a cls d C f te σ H Q
theorem pe_xfU {X : Cx} {a : Addr} {oe : Obj} {cls : Value} {d : Option Addr} {pn : List (Addr × Obj)} {e : Expr} {te : TE} {pos : Pos} {n : Str}
    (hz : Zc cls d oe) (hf : ∃ vs, oe.data = .fields vs) (he : PE (X.suite a ((a, oe) :: pn)) e te) (hb : attributeBase e n X.env (eval e X.env) = eval e X.env := by rfl) :
    PE (X.suite a ((a, oe) :: pn)) (.Attribute e n pos) (tXfU X.K a cls d n te) := ⟨fun pins s σ H Q I h => by
  obtain ⟨C, T, hno, h⟩ := h
  exact (pe_xf ⟨T.hg, T.hk, T.hs, T.hd⟩ hno hz hf he hb).run pins s σ H Q I h⟩
section
variable {K : PySem.W.Frag} {G G0 G1 G2 H H0 H1 H2 H3 G3 : Hp} {ρ ρ1 : Ro} {cs : Cs} {ta tb te tx : TE} {d x y z : D}
theorem cd_isX {C a : Addr} {dd : Option Addr} {c : V} {cv : Value} {b : Bool} (T : Ec K C) (hc : ClsV c cv) (hb : PySem.W.kitOne K (.ref C) cv = some b) (hd : ∀ p, dd = some p → ∃ fs, (p, .xdc fs) ∈ cs) : CallD K (rIsX K a (.ref C) dd) cs [.any (.ref a), .any c] (.bl b) := fun G H vs w r Q q => by
  cases r with
  | cons r0 r1 =>
    cases r1 with
    | cons r2 r3 =>
      cases r3
      cases r0.any w
      cases r2.any w
      refine ⟨C, c, cv, b, rfl, T, rfl, hc, hb, fun p hp => ?_, q _ G H (Nx.refl w.sub) (.bl _)⟩
      obtain ⟨fs, h⟩ := hd p hp
      obtain ⟨_, vs, hv, _⟩ := w.cell _ h
      exact ⟨vs, hv⟩
theorem ev_xf {C a p : Addr} {f : Str} {fs : List (Str × D)} (T : Ec K C) (nf : PySem.W.findIn K (.ref C) f = some none) (h : Ev K te ρ cs (.any (.ref a))) (hp : (p, .xdc fs) ∈ cs) (hl : fs.lookup f = some z) : Ev K (tXfU K a (.ref C) (some p) f te) ρ cs z := fun G H σ w e Q q =>
  ⟨C, T, nf, h G H σ w e _ fun v G2 H2 n r => by
    cases r
    obtain ⟨_, vs, hv, rf⟩ := (w.step n).cell _ hp
    obtain ⟨u, hu, ru⟩ := rf.lookup hl
    exact ⟨rfl, rfl, p, vs, u, rfl, hv, hu, q u G2 H2 n ru⟩⟩
end
end Lv

namespace Lv
open PySem L2
open Evl (Ex)
/-! ### a def called within an except suite -/
structure Hx (P : Program) (w : World) (K : PySem.W.Frag) (mg : Str → Option Value) (base : Heap) (k : Nat) (x : Str) (ps : List Str) (sp : Sp) : Prop where
  ex : ∃ f fd, L2H.FnH P w K mg base (L2N.CX P w) k f fd ps sp ∧ mg x = some (.ref f) ∧ PySem.W.keepIn K (.ref f) = true ∧ Binds K fd ps []
section
variable {P : Program} {w : World} {K : PySem.W.Frag} {mg : Str → Option Value} {base : Heap}
theorem fn_okH {x qual : Str} {st : Stmt} {f : Addr} {fd : FuncData} {N ps : List Str} {k n : Nat} {A : List D → Out → Prop} (F : Fun K x qual st f fd) (S : FnScope N ps (defScope st)) (hn : ps.length = n)
    (hbody : ∀ (cdv : Value) (A' : Around) (outer : List PySem.Env) (s : Shared) (H : Hp) (E : XK) (p : Addr × Obj), L2H.RoomH k (L2H.cxH (L2N.CX P w) P w K mg base N qual (defScope st) f cdv A' outer s H E p).A →
      ∃ t, PSs (L2H.cxH (L2N.CX P w) P w K mg base N qual (defScope st) f cdv A' outer s H E p) (defBody st) t ∧ ∀ ds o, ds.length = n → A ds o → Sv K (Wd E) [] t (startD N ds) [] (poOf o)) :
    L2H.FnH P w K mg base (L2N.CX P w) (k + 1) f fd ps (spO K n A) := by
  obtain ⟨oc, od, kV, doc, pm, an, cdv, ct, osl, rfl, lk, hcd⟩ := F.ex
  refine L2H.fn_ofH lk hcd S (fun vs H Q E h => ?_) (fun A' outer s H vs Q E p hot hr h => ?_)
  · obtain ⟨G, ds, o, _, r, h1, _⟩ := h
    rw [r.length, h1, hn]
  · obtain ⟨G, ds, o, hs, r, h1, h2, q⟩ := h
    obtain ⟨t, ht, hv⟩ := hbody cdv A' outer s H E p hr
    exact ⟨t, ht, run_of hs r (hv ds o h1 h2) q⟩
theorem fn_okI {x qual : Str} {st : Stmt} {f C : Addr} {fd : FuncData} {N ps : List Str} {k n : Nat} {A : List D → Out → Prop} (F : Fun K x qual st f fd) (S : FnScope N ps (defScope st)) (hn : ps.length = n + 1)
    (hbody : ∀ (cdv : Value) (A' : Around) (outer : List PySem.Env) (s : Shared) (H : Hp) (E : XK), Room k (cxN P w K mg base N qual st f cdv A' outer s H E).A → L2N.Takes (cxN P w K mg base N qual st f cdv A' outer s H E) (Wd E) →
      PassesOwn (model P w) (cxN P w K mg base N qual st f cdv A' outer s H E).A (cxN P w K mg base N qual st f cdv A' outer s H E).env (cxN P w K mg base N qual st f cdv A' outer s H E).xe →
      ∃ t, PSs (cxN P w K mg base N qual st f cdv A' outer s H E) (defBody st) t ∧ ∀ a ds o, ds.length = n → A ds o → Sv K (Wd E) [a] t (startD N (.any (.ref a) :: ds)) [(a, .obj C [])] (poI C a o)) :
    FnOk P w K mg base (L2N.CX P w) (k + 1) f fd ps (spI K C n A) := by
  obtain ⟨oc, od, kV, doc, pm, an, cdv, ct, osl, rfl, lk, hcd⟩ := F.ex
  refine fn_of lk hcd S (fun vs H Q E h => ?_) (fun A' outer s H vs Q E hr h => ?_)
  · obtain ⟨y, dx, us, G, ds, o, rfl, _, _, _, r, h1, _⟩ := h
    rw [List.length_cons, r.length, h1, hn]
  · obtain ⟨y, dx, us, G, ds, o, rfl, hx, gx, hs, r, h1, h2, q⟩ := h
    obtain ⟨t, ht, hv⟩ := hbody cdv A' outer s H E hr (L2N.takes_of rfl rfl rfl rfl) (passes_of rfl)
    exact ⟨t, ht, run_ofI hs r hx gx (hv y ds o h1 h2) q⟩
/-- __init__(self, f): self.f = f of an exception -/
theorem fn_okX {x qual fl : Str} {st : Stmt} {f : Addr} {fd : FuncData} {N : List Str} (F : Fun K x qual st f fd) (S : FnScope N ["self", fl] (defScope st)) (hN : N = (["self", fl] : List Str))
    (hbody : ∀ (cdv : Value) (A' : Around) (outer : List PySem.Env) (s : Shared) (H : Hp) (E : XK), PSs (cxN P w K mg base N qual st f cdv A' outer s H E) (defBody st) (tOst K fl (tVar 0) (tVar 1))) :
    FnOk P w K mg base (L2N.CX P w) 1 f fd ["self", fl] (spXI K fl) := by
  obtain ⟨oc, od, kV, doc, pm, an, cdv, ct, osl, rfl, lk, hcd⟩ := F.ex
  refine fn_of lk hcd S (fun vs H Q E h => ?_) (fun A' outer s H vs Q E hr h => ⟨_, hbody cdv A' outer s H E, ?_⟩)
  · obtain ⟨a, C, v, rfl, _⟩ := h
    rfl
  · obtain ⟨a, C, v, rfl, T, nf, ha, q⟩ := h
    subst hN
    exact ⟨v, rfl, .ref a, rfl, a, C, rfl, T, nf, .inl ⟨ha, fun dx hdx hne => q dx hdx hne⟩⟩
end
theorem hot_of {X : Cx} {a : Addr} {oe : Obj} {cls : Value} {d : Option Addr} {pn : List (Addr × Obj)} (hz : L2N.Zn cls d oe) (hf : ∃ vs, oe.data = .fields vs) : L2H.HotC (X.suite a ((a, oe) :: pn)) := by
  obtain ⟨vs, hv⟩ := hf
  exact ⟨(a, oe), ⟨rfl, vs, hv, hz.2.2 vs hv⟩, List.mem_cons_self⟩
theorem pe_callHF {X : Cx} {k j : Nat} {x : Str} {ps : List Str} {sp : Sp} {e : Expr} {es : List Expr} {t : TA} {p pos : Pos} {a : Addr} {oe : Obj} {cls : Value} {d : Option Addr} {pn : List (Addr × Obj)} (hz : L2N.Zn cls d oe) (hf : ∃ vs, oe.data = .fields vs)
    (F : Hx X.prog X.w X.K X.mg X.base j x ps sp) (hr : Room k X.A) (ha : PA (X.suite a ((a, oe) :: pn)) (e :: es) t) (hj : j ≤ k := by decide) (hg : Gl X x := by rfl) (hdb : (x == ("__debug__" : Str)) = false := by decide)
    (he : starEach (e :: es) X.env = (false, eval e X.env) :: starEach es X.env := by rfl) (hpl : (backTo pos (starEach es X.env)).any (·.1) = false := by rfl) : PE (X.suite a ((a, oe) :: pn)) (.Call (.Name x p) (e :: es) [] pos) (tCallS sp (fun _ => E0) t) := by
  obtain ⟨f, fd, G, m, kp, b⟩ := F.ex
  exact L2H.pe_callH G (⟨(hr.mono hj).dp, (hr.mono hj).un⟩ : L2H.RoomH j (X.suite a ((a, oe) :: pn)).A) (hot_of hz hf) hg m kp b (fun σ pins H s e s' I c => passN pins σ H s e s' I c) ha hdb he hpl
theorem ev_callH {K : PySem.W.Frag} {ρ : Ro} {cs : Cs} {z : D} {sp : Sp} {E : L2.St → XK} {ta : TA} {ds : List D} (h : EvA K ta ρ cs ds) (hs : SpD K sp ds z) : Ev K (tCallS sp E ta) ρ cs z := fun G H σ w e Q q =>
  h G H σ w e _ fun vs G2 H2 n rs => hs G2 H2 vs n.s rs Q _ fun v G3 H3 n3 r => q v G3 H3 (n.trans n3) r
end Lv

namespace Lv
open PySem L2
open Evl (Ex)
abbrev ga (K : PySem.W.Frag) (x : Str) : Addr := He.ga K x
/-! ### facts of the head as Bools -/
def oexB (K : PySem.W.Frag) (C : Addr) : Bool := (match K.lookup C with
  | some ⟨.type "type", _, .cls cd, sl⟩ => (match cd.mro, sl.toList with
    | .ref C' :: bm, [_, _, _, _, some (.builtin n), _] => decide (C' = C) && (decide (n = "ValueError.__new__") && (cd.hasDict && (!cd.hasDel && PySem.HandSPX.refsVE bm)))
    | _, _ => false)
  | _ => false) && (He.eqO (PySem.W.findIn K (.ref C) "__setattr__") (some (some (.builtin "object.__setattr__"))) && (decide (PySem.W.subIn K (.ref C) (.type "BaseException") = some true) && (decide (PySem.W.typeIn K (.ref C) = some (.type "type")) && PySem.W.keepIn K (.ref C))))
theorem oexB_ok {K : PySem.W.Frag} {C : Addr} (h : oexB K C = true) : OexC K C := by
  obtain ⟨h1, h2⟩ := He.ba h
  obtain ⟨h3, h4⟩ := He.ba h2
  obtain ⟨h5, h6⟩ := He.ba h4
  obtain ⟨h7, h8⟩ := He.ba h6
  refine ⟨?_, He.eqO_ok h3, of_decide_eq_true h5, of_decide_eq_true h7, h8⟩
  split at h1
  · rename_i dd cd sl ho
    split at h1
    · rename_i C' bm k0 k1 k2 k3 n k5 hm hs
      obtain ⟨a1, a2⟩ := He.ba h1
      obtain ⟨a3, a4⟩ := He.ba a2
      obtain ⟨a5, a6⟩ := He.ba a4
      obtain ⟨a7, a8⟩ := He.ba a6
      have e1 := of_decide_eq_true a1
      have e2 := of_decide_eq_true a3
      obtain ⟨nm, bs, mro, ns, qn, hd, sn, sub, ab, col, del⟩ := cd
      dsimp only at hm a5 a7
      have e3 : del = false := by simpa using a7
      subst e1 e2 hm a5 e3
      have hsl : sl = #[k0, k1, k2, k3, some (.builtin "ValueError.__new__"), k5] := by
        obtain ⟨l⟩ := sl
        simp only at hs
        rw [hs]
      subst hsl
      exact ⟨_, _, _, _, _, _, _, _, _, _, _, _, _, _, _, ho, a8⟩
    · cases h1
  · cases h1
def ecB (K : PySem.W.Frag) (C : Addr) : Bool := (PySem.W.clsIn K C).isSome && (He.eqO (PySem.W.findIn K (.ref C) "__getattribute__") (some (some (.builtin "BaseException.__getattribute__"))) && (He.eqO (PySem.W.findIn K (.ref C) "__getattr__") (some none) && (decide (PySem.W.subIn K (.ref C) (.type "BaseException") = some true) && (PySem.W.hasDictIn K C &&
  (He.eqO (PySem.W.findIn K (.ref C) "__class__") (some (some (.builtin "object.__class__"))) && (He.eqO (PySem.W.specialIn K (.builtin "object.__class__") "__get__") (some (some (.builtin "getset_descriptor.__get__"))) && (decide (PySem.W.takesIn K (.builtin "object.__class__") = some true) && decide (PySem.W.mroIn K C (.type "object") = some true))))))))
theorem ecB_ok {K : PySem.W.Frag} {C : Addr} (h : ecB K C = true) : Ec K C := by
  obtain ⟨h1, h⟩ := He.ba h
  obtain ⟨h2, h⟩ := He.ba h
  obtain ⟨h3, h⟩ := He.ba h
  obtain ⟨h4, h⟩ := He.ba h
  obtain ⟨h5, h⟩ := He.ba h
  obtain ⟨h6, h⟩ := He.ba h
  obtain ⟨h7, h⟩ := He.ba h
  obtain ⟨h8, h9⟩ := He.ba h
  exact ⟨h1, He.eqO_ok h2, He.eqO_ok h3, of_decide_eq_true h4, h5, He.eqO_ok h6, He.eqO_ok h7, of_decide_eq_true h8, of_decide_eq_true h9⟩
def icB (K : PySem.W.Frag) (C : Addr) : Bool := He.eqO (PySem.W.findIn K (.ref C) "__class__") (some (some (.builtin "object.__class__"))) && (He.eqO (PySem.W.specialIn K (.builtin "object.__class__") "__get__") (some (some (.builtin "getset_descriptor.__get__"))) && (decide (PySem.W.takesIn K (.builtin "object.__class__") = some true) && decide (PySem.W.mroIn K C (.type "object") = some true)))
theorem icB_ok {K : PySem.W.Frag} {C : Addr} (c : Cls K C) (h : icB K C = true) : Ic K C := by
  obtain ⟨h6, h⟩ := He.ba h
  obtain ⟨h7, h⟩ := He.ba h
  obtain ⟨h8, h9⟩ := He.ba h
  exact ⟨c, He.eqO_ok h6, He.eqO_ok h7, of_decide_eq_true h8, of_decide_eq_true h9⟩
def xoB (K : PySem.W.Frag) (C : Addr) : Bool := PySem.W.excIn K C He.veBase "ValueError.__new__" && (PySem.W.keepIn K (.ref C) && (decide (PySem.W.subIn K (.ref C) (.type "BaseException") = some true) && decide (PySem.W.typeIn K (.ref C) = some (.type "type"))))
theorem xoB_ok {K : PySem.W.Frag} {mg : Str → Option Value} {x : Str} {C : Addr} (g : mg x = some (.ref C)) (h : xoB K C = true) : Xo K mg x C := by
  obtain ⟨h1, h⟩ := He.ba h
  obtain ⟨h2, h⟩ := He.ba h
  obtain ⟨h3, h4⟩ := He.ba h
  exact ⟨g, h1, h2, of_decide_eq_true h3, of_decide_eq_true h4⟩
/-- the exception class at C has an __init__ of its own -/
def xinB (K : PySem.W.Frag) (C : Addr) : Bool := He.eqO (PySem.W.findIn K (.ref C) "__init__") (some (some (.ref (He.ma K C "__init__")))) && decide (PySem.W.typeIn K (.ref (He.ma K C "__init__")) = some (.type "function"))
def kitB1 (K : PySem.W.Frag) (C : Addr) (c : Value) (b : Bool) : Bool := decide (PySem.W.kitOne K (.ref C) c = some b)
def exmB (K : PySem.W.Frag) (C B : Addr) (b : Bool) : Bool := decide (PySem.W.exmOne K (.ref C) (.ref B) = some b)
def noatB (K : PySem.W.Frag) (C : Addr) (f : Str) : Bool := He.eqO (PySem.W.findIn K (.ref C) f) (some none)
def ownB (K : PySem.W.Frag) (C : Addr) (m : Str) : Bool := PySem.W.selfFirst K C && (He.eqO (PySem.W.findIn K (.ref C) m) (some (some (.ref (He.ma K C m)))) && PySem.W.isFn K (.ref (He.ma K C m)))
/-! ### the law's end -/
theorem fn_no {P : Program} {w : World} {K : PySem.W.Frag} {mg : Str → Option Value} {base : Heap} {k : Nat} {f : Addr} {fd : FuncData} {ps : List Str} {sp : Sp} (F : FnOk P w K mg base (L2N.CX P w) k f fd ps sp) : FnOk P w K mg base CX0 k f fd ps (fun vs H Q _ => sp vs H Q E0) := by
  refine ⟨fun vs H Q E h => F.len vs H Q E0 h, fun A outer s H args us vs Q E hr he hb hv hs => codeAny_mono (F.run A outer s H args us vs Q E0 hr he hb hv hs) fun r s' hq => ?_⟩
  cases r with
  | ok fl => cases fl <;> exact hq
  | error e =>
    obtain ⟨_, _, _, _, _, _, _, _, _, _, _, _, z⟩ := (show L2N.CX P w outer H s E0 e s' from hq)
    exact z.elim
/-- the law called with the script gives True -/
theorem law_sp {K : PySem.W.Frag} {A : List D → Out → Prop} {H : Hp} {a : Addr} {ns : List Int} (hA : A [.scr ns] (.ret (.bl true))) (hS : SqL K H a (ns.map V.int)) : spO K 1 A [.ref a] H (fun v _ => v = .bl true) E0 :=
  ⟨H, [.scr ns], .ret (.bl true), Ex.refl _, .cons (.scr hS) .nil, rfl, hA, fun v G2 H2 _ r => by cases r; rfl⟩
end Lv

namespace Lv
open PySem L2
open Evl (Ex)
section
variable {K : PySem.W.Frag} {G G0 G1 G2 H H0 H1 H2 H3 G3 : Hp} {ρ ρ1 : Ro} {cs : Cs} {ta tb te tx : TE} {tt : TT} {d d' e x y z : D} {W : WX} {bs : List Addr} {P : Po} {t u v : TS}
/-- [e for x in range(n) if t] -/
theorem en_lcR {ta : TA} {j n : Nat} {vs : List Nat} {f : Nat → Bool} {v : Nat → D} (hi : EvA K ta ρ cs [.int (n : Int)]) (hn : n ≤ 100000) (hj : j ∈ vs)
    (ht : ∀ i, i < n → EvT K tt ((wipeD ρ vs).set j (some (.int (i : Int)))) cs (f i)) (he : ∀ i, i < n → f i = true → Ev K te ((wipeD ρ vs).set j (some (.int (i : Int)))) cs (v i)) :
    EvN K (tLc (iRng1 ta) (gName j) tt te vs) ρ cs (((List.range n).filter f).map v) :=
  en_lc (enc := fun i : Nat => D.int (i : Int)) (ρ' := fun i => (wipeD ρ vs).set j (some (.int (i : Int)))) (js := [j]) (ei_rng1 hi hn) (fun a _ => eg_name) (fun k hk => by rw [List.mem_singleton] at hk; rw [hk]; exact hj) (fun a ha => ht a (List.mem_range.mp ha)) (fun a ha => he a (List.mem_range.mp ha)) (by rw [List.length_range]; exact hn)
theorem en_mapR {ta : TA} {j n : Nat} {vs : List Nat} {v : Nat → D} (hi : EvA K ta ρ cs [.int (n : Int)]) (hn : n ≤ 100000) (hj : j ∈ vs)
    (he : ∀ i, i < n → Ev K te ((wipeD ρ vs).set j (some (.int (i : Int)))) cs (v i)) :
    EvN K (tLc (iRng1 ta) (gName j) tYes te vs) ρ cs ((List.range n).map v) :=
  en_map (enc := fun i : Nat => D.int (i : Int)) (ρ' := fun i => (wipeD ρ vs).set j (some (.int (i : Int)))) (js := [j]) (ei_rng1 hi hn) (fun a _ => eg_name) (fun k hk => by rw [List.mem_singleton] at hk; rw [hk]; exact hj) (fun a ha => he a (List.mem_range.mp ha)) (by rw [List.length_range]; exact hn)
/-- [e for x in xs if t] -/
theorem en_lcL {α : Type} {xs : List α} {enc : α → D} {wi : TI} {j : Nat} {vs : List Nat} {src : Cs} {f : α → Bool} {v : α → D} (hi : EvI K wi ρ cs src (xs.map enc)) (hn : xs.length ≤ 100000) (hj : j ∈ vs)
    (ht : ∀ a ∈ xs, EvT K tt ((wipeD ρ vs).set j (some (enc a))) cs (f a)) (he : ∀ a ∈ xs, f a = true → Ev K te ((wipeD ρ vs).set j (some (enc a))) cs (v a)) :
    EvN K (tLc wi (gName j) tt te vs) ρ cs ((xs.filter f).map v) :=
  en_lc (ρ' := fun a => (wipeD ρ vs).set j (some (enc a))) (js := [j]) hi (fun a _ => eg_name) (fun k hk => by rw [List.mem_singleton] at hk; rw [hk]; exact hj) ht he hn
theorem en_mapL {α : Type} {xs : List α} {enc : α → D} {wi : TI} {j : Nat} {vs : List Nat} {src : Cs} {v : α → D} (hi : EvI K wi ρ cs src (xs.map enc)) (hn : xs.length ≤ 100000) (hj : j ∈ vs)
    (he : ∀ a ∈ xs, Ev K te ((wipeD ρ vs).set j (some (enc a))) cs (v a)) : EvN K (tLc wi (gName j) tYes te vs) ρ cs (xs.map v) :=
  en_map (ρ' := fun a => (wipeD ρ vs).set j (some (enc a))) (js := [j]) hi (fun a _ => eg_name) (fun k hk => by rw [List.mem_singleton] at hk; rw [hk]; exact hj) he hn
/-! ### loops with a condition that is kept -/
theorem sv_forF {wi : TI} {g : TG} {src : Cs} {ds : List D} (hi : EvI K wi ρ cs src ds) (R : Nat → Ro) (C : Nat → Cs) (Z : Nat → Prop) (h0 : le (R 0) ρ) (hc0 : cs = C 0) (hz : Z 0) (hk : ∀ i, ∀ c ∈ src, c ∈ C i)
    (hs : ∀ (i : Nat) d, ds[i]? = some d → Z i → ∃ ρ1 js, EvG K g d (R i) ρ1 js ∧ Sv K W bs t ρ1 (C i) { P with nx := fun ρ' cs' => le (R (i + 1)) ρ' ∧ cs' = C (i + 1) ∧ Z (i + 1), ct := fun ρ' cs' => le (R (i + 1)) ρ' ∧ cs' = C (i + 1) ∧ Z (i + 1), bk := P.nx })
    (hd : Z ds.length → ∀ ρ', le (R ds.length) ρ' → P.nx ρ' (C ds.length)) : Sv K W bs (tFor wi g t) ρ cs P := by
  refine sv_for hi (fun i ρ' cs' => le (R i) ρ' ∧ cs' = C i ∧ Z i) ⟨h0, hc0, hz⟩ (fun i ρ' cs' h => by rw [h.2.1]; exact hk i) (fun i d ρ' cs' hd h => ?_) (fun ρ' cs' h => ?_)
  · obtain ⟨ρ1, js, hg, hb⟩ := hs i d hd h.2.2
    refine ⟨ρ1, js, fun G H σ v s e r Q q => hg G H σ v s (e.le h.1) r Q q, ?_⟩
    rw [h.2.1]
    exact hb
  · rw [h.2.1]
    exact hd h.2.2 ρ' h.1
theorem q_forLZ {α : Type} {xs : List α} {enc : α → D} {wi : TI} {j : Nat} {src : Cs} (hi : EvI K wi ρ cs src (xs.map enc)) (R : Nat → Ro) (C : Nat → Cs) (Z : Nat → Prop) (h0 : le (R 0) ρ) (hc0 : cs = C 0) (hz : Z 0) (hk : ∀ i, ∀ c ∈ src, c ∈ C i)
    (hs : ∀ (i : Nat) a, xs[i]? = some a → Z i → Sv K W bs t ((R i).set j (some (enc a))) (C i) { P with nx := fun ρ' cs' => le (R (i + 1)) ρ' ∧ cs' = C (i + 1) ∧ Z (i + 1), ct := fun ρ' cs' => le (R (i + 1)) ρ' ∧ cs' = C (i + 1) ∧ Z (i + 1), bk := fun ρ' cs' => Sv K W bs u ρ' cs' P })
    (hd : Z xs.length → Sv K W bs u (R xs.length) (C xs.length) P) : Sv K W bs (tSeq (tFor wi (gName j) t) u) ρ cs P := by
  refine sv_seq (sv_forF hi R C Z h0 hc0 hz hk (fun i d h hZ => ?_) (fun hZ ρ' hl => ?_))
  · rw [List.getElem?_map] at h
    cases hr : xs[i]? with
    | none => rw [hr] at h; cases h
    | some m =>
      rw [hr] at h
      cases h
      exact ⟨_, _, eg_name, hs i m hr hZ⟩
  · rw [List.length_map] at hZ hl ⊢
    exact (hd hZ).le hl
theorem q_forRZ {ta : TA} {j n : Nat} (hi : EvA K ta ρ cs [.int (n : Int)]) (hn : n ≤ 100000) (R : Nat → Ro) (C : Nat → Cs) (Z : Nat → Prop) (h0 : le (R 0) ρ) (hc0 : cs = C 0) (hz : Z 0)
    (hs : ∀ i, i < n → Z i → Sv K W bs t ((R i).set j (some (.int (i : Int)))) (C i) { P with nx := fun ρ' cs' => le (R (i + 1)) ρ' ∧ cs' = C (i + 1) ∧ Z (i + 1), ct := fun ρ' cs' => le (R (i + 1)) ρ' ∧ cs' = C (i + 1) ∧ Z (i + 1), bk := fun ρ' cs' => Sv K W bs u ρ' cs' P })
    (hd : Z n → Sv K W bs u (R n) (C n) P) : Sv K W bs (tSeq (tFor (iRng1 ta) (gName j) t) u) ρ cs P := by
  refine q_forLZ (xs := List.range n) (enc := fun i : Nat => D.int (i : Int)) (ei_rng1 hi hn) R C Z h0 hc0 hz (fun i c h => by simp at h) (fun i a h hZ => ?_) (fun hZ => ?_)
  · have hi : i < n := by
      have := (List.getElem?_eq_some_iff.mp h).1
      simpa using this
    rw [List.getElem?_range hi] at h
    cases h
    exact hs i hi hZ
  · rw [List.length_range] at hZ ⊢
    exact hd hZ
/-- a search: nothing changes from turn to turn -/
theorem q_search {α : Type} {xs : List α} {enc : α → D} {wi : TI} {j : Nat} {src : Cs} (hi : EvI K wi ρ cs src (xs.map enc)) (Z : Nat → Prop) (hz : Z 0) (hk : ∀ c ∈ src, c ∈ cs) (hl : le (ρ.set j none) ρ)
    (hs : ∀ (i : Nat) a, xs[i]? = some a → Z i → Sv K W bs t ((ρ.set j none).set j (some (enc a))) cs { P with nx := fun ρ' cs' => le (ρ.set j none) ρ' ∧ cs' = cs ∧ Z (i + 1), ct := fun ρ' cs' => le (ρ.set j none) ρ' ∧ cs' = cs ∧ Z (i + 1), bk := fun ρ' cs' => Sv K W bs u ρ' cs' P })
    (hd : Z xs.length → Sv K W bs u (ρ.set j none) cs P) : Sv K W bs (tSeq (tFor wi (gName j) t) u) ρ cs P :=
  q_forLZ hi (fun _ => ρ.set j none) (fun _ => cs) Z hl rfl hz (fun _ => hk) hs hd
theorem le_none : ∀ {ρ : Ro} {i : Nat}, le (ρ.set i none) ρ
  | [], _ => trivial
  | x :: r, 0 => le.refl r
  | none :: r, i + 1 => le_none (ρ := r) (i := i)
  | some x :: r, i + 1 => ⟨rfl, le_none (ρ := r) (i := i)⟩
theorem ev_cty {n : String} : Ev K (tC (.ty n)) ρ cs (.any (.ty n)) := ev_c
theorem ev_cref {a : Addr} : Ev K (tC (.ref a)) ρ cs (.any (.ref a)) := ev_c
/-! ### lists and tuples alike -/
/-- a list (true) or a tuple -/
def sq (b : Bool) (xs : List D) : D := if b then .lst xs else .tup xs
theorem ei_sq {tl : TE} {b : Bool} {ds : List D} (h : Ev K tl ρ cs (sq b ds)) : EvI K (iSeq K tl) ρ cs [] ds := by
  cases b with
  | true => exact ei_seqL h
  | false => exact ei_seqT h
theorem opd_inSq {n : Nat} {b : Bool} {ys : List D} (hn : n < 64) (hx : ok n x = true) (hy : okL n ys = true) : OpD K (uIn K) cs x (sq b ys) (.bl (inD x ys)) := by
  cases b with
  | true => exact opd_inL hn hx hy
  | false => exact opd_inT hn hx hy
theorem cd_lenSq {b : Bool} {ds : List D} : CallD K (uLen K) cs [sq b ds] (.int ds.length) := by
  cases b with
  | true => exact cd_lenL
  | false => exact cd_lenT
end
end Lv

namespace Lv
open PySem L2
open Evl (Ex)
section
variable {K : PySem.W.Frag} {G G0 G1 G2 H H0 H1 H2 H3 G3 : Hp} {ρ ρ1 : Ro} {cs : Cs} {ta tb te tx : TE} {tt tt1 : TT} {d d' e x y z : D} {W : WX} {bs : List Addr} {P : Po} {t u v : TS}
/-! ### two clauses -/
def LcJ (K : PySem.W.Frag) (G1 H1 Gf : Hp) (Dl : Addr) (ds : List D) (Hc : Hp) : Prop := ∃ Gc us, Nx G1 H1 Gc Hc ∧ Ex Gf Gc ∧ Gc Dl = none ∧ Hc Dl = some (.lst us) ∧ RepL K Gc us ds
theorem lcJ_turn {Gf Hc : Hp} {Dl : Addr} {ds : List D} {b : Bool} {v : D} {J : It} {src : Cs} {its0 : List D} {i : Nat} {σ : L2.St} {g : TG} {vs js : List Nat} {ρ1 : Ro} {Nxt : List D → Hp → Prop} (w1 : Wl K G1 H1 cs) (e1 : Env K Gf (wipe σ vs) (wipeD ρ vs)) (hDl : H1 Dl = none)
    (its : Its K J Gf src its0) (hsrc : ∀ c ∈ src, c ∈ cs) (hi : its0[i]? = some d) (inv : LcJ K G1 H1 Gf Dl ds Hc) (hg : EvG K g d (wipeD ρ vs) ρ1 js) (hj : ∀ j ∈ js, j ∈ vs)
    (ht : EvT K tt ρ1 cs b) (he : b = true → Ev K te ρ1 cs v) (hl : ds.length < 100000)
    (hn1 : b = true → ∀ Hn, LcJ K G1 H1 Gf Dl (ds ++ [v]) Hn → Nxt (ds ++ [v]) Hn) (hn2 : b = false → ∀ Hn, LcJ K G1 H1 Gf Dl ds Hn → Nxt ds Hn) :
    J.go i Hc ∧ ∀ x H', J.yld i Hc x H' → g x (wipe σ vs) H' fun σ2 H2 => wipe σ2 vs = wipe σ vs ∧ tt σ2 H2 fun b' H3 =>
      if b' = true then te σ2 H3 fun y H4 => ∃ acc, H4 Dl = some (.lst acc) ∧ acc.length < sizeLine ∧ Nxt (ds ++ [v]) (upd H4 Dl (.lst (acc ++ [y]))) else Nxt ds H3 := by
  obtain ⟨Gc, us, n, fx, gD, hD, rl⟩ := inv
  have wc := w1.step n
  obtain ⟨go, yl⟩ := its.go i d Gc Hc cs hi fx wc hsrc
  refine ⟨go, fun x H' hy => ?_⟩
  obtain ⟨G4, n4, rx⟩ := yl x H' hy
  refine hg G4 H' (wipe σ vs) x n4.s ((e1.mono fx).mono n4.g) rx _ fun σ2 e2 s2 => ⟨wipe_eq s2 hj, ?_⟩
  have w4 := wc.step n4
  refine ht G4 H' σ2 w4 e2 _ fun G5 H5 n5 => ?_
  have gD5 : G5 Dl = none := (n4.trans n5).keepN hD gD
  have hD5 : H5 Dl = some (.lst us) := (n4.trans n5).h _ _ hD
  cases b with
  | false => exact hn2 rfl H5 ⟨G5, us, (n.trans n4).trans n5, (fx.trans n4.g).trans n5.g, gD5, hD5, rl.mono (n4.trans n5).g⟩
  | true =>
    refine he rfl G5 H5 σ2 (w4.step n5) (e2.mono n5.g) _ fun y G6 H6 n6 ry => ?_
    have gD6 : G6 Dl = none := n6.keepN hD5 gD5
    refine ⟨us, n6.h _ _ hD5, by rw [rl.length]; exact Evl.sz_lt hl, hn1 rfl _ ⟨G6, us ++ [y], ((((n.trans n4).trans n5).trans n6).mutate hDl gD6), ((fx.trans n4.g).trans n5.g).trans n6.g, gD6, upd_same, ?_⟩⟩
    exact (rl.mono ((n4.trans n5).trans n6).g).append (.one ry)
theorem en_lc2 {α β : Type} {xs : List α} {enc : α → D} {ys : α → List β} {enc1 : β → D} {wi wi1 : TI} {g g1 : TG} {vs vs1 js js1 : List Nat} {src src1 : Cs} {f : α → Bool} {f1 : α → β → Bool} {v : α → β → D} {ρ1 : α → Ro} {ρ2 : α → β → Ro}
    (hi : EvI K wi ρ cs src (xs.map enc)) (hg : ∀ a ∈ xs, EvG K g (enc a) (wipeD ρ vs) (ρ1 a) js) (hj : ∀ j ∈ js, j ∈ vs) (ht : ∀ a ∈ xs, EvT K tt (ρ1 a) cs (f a))
    (hi1 : ∀ a ∈ xs, f a = true → EvI K wi1 (ρ1 a) cs src1 ((ys a).map enc1)) (hg1 : ∀ a ∈ xs, f a = true → ∀ b ∈ ys a, EvG K g1 (enc1 b) (wipeD (ρ1 a) vs1) (ρ2 a b) js1) (hj1 : ∀ j ∈ js1, j ∈ vs1)
    (ht1 : ∀ a ∈ xs, f a = true → ∀ b ∈ ys a, EvT K tt1 (ρ2 a b) cs (f1 a b)) (he : ∀ a ∈ xs, f a = true → ∀ b ∈ ys a, f1 a b = true → Ev K te (ρ2 a b) cs (v a b)) (hl : (xs.flatMap ys).length ≤ 100000) :
    EvN K (tLc2 wi g tt wi1 g1 tt1 te vs vs1) ρ cs ((xs.filter f).flatMap fun a => ((ys a).filter (f1 a)).map (v a)) := fun G H σ w e Q q =>
  hi G H σ w e _ fun J G1 H1 n1 hsrc its Dl hDl => by
    have w1 := w.step n1
    have e1 : Env K G1 (wipe σ vs) (wipeD ρ vs) := (e.mono n1.g).wipe vs
    let upto : Nat → List D := fun i => ((xs.take i).filter f).flatMap fun a => ((ys a).filter (f1 a)).map (v a)
    have hup : ∀ i, (upto i).length ≤ ((xs.take i).flatMap ys).length := fun i => by
      show (((xs.take i).filter f).flatMap fun a => ((ys a).filter (f1 a)).map (v a)).length ≤ _
      generalize xs.take i = zs
      induction zs with
      | nil => simp
      | cons z zs ih =>
        rw [List.flatMap_cons, List.length_append]
        have h1 := List.length_filter_le (f1 z) (ys z)
        by_cases hz : f z = true
        · rw [List.filter_cons_of_pos hz, List.flatMap_cons, List.length_append, List.length_map]
          omega
        · rw [List.filter_cons_of_neg hz]
          omega
    refine ⟨fun i m Hc => m = xs.length - i ∧ i ≤ xs.length ∧ LcJ K G1 H1 G1 Dl (upto i) Hc, ⟨xs.length, rfl, Nat.zero_le _, G1, [], Nx.newc w1.sub hDl, Ex.refl _, Evl.fresh_back w1.sub hDl, upd_same, .nil⟩, fun i m Hc hW => ?_⟩
    obtain ⟨rfl, hle, inv⟩ := hW
    by_cases hlt : i < xs.length
    · have hmem : xs[i] ∈ xs := List.getElem_mem hlt
      have hat : (xs.map enc)[i]? = some (enc xs[i]) := by rw [List.getElem?_map, List.getElem?_eq_getElem hlt]; rfl
      have tk : xs.take (i + 1) = xs.take i ++ [xs[i]] := by rw [List.take_add_one, List.getElem?_eq_getElem hlt]; rfl
      have hsum : (upto i).length + (ys xs[i]).length ≤ 100000 := by
        have h1 := hup i
        have h2 : xs.flatMap ys = (xs.take i).flatMap ys ++ (ys xs[i] ++ (xs.drop (i + 1)).flatMap ys) := by
          rw [← List.flatMap_cons, ← List.flatMap_append]
          congr 1
          rw [show xs[i] :: xs.drop (i + 1) = xs.drop i from (List.drop_eq_getElem_cons hlt).symm, List.take_append_drop]
        rw [h2] at hl
        simp only [List.length_append] at hl
        omega
      have nxt : ∀ Hn Gf, LcJ K G1 H1 Gf Dl (upto (i + 1)) Hn → ∃ m', m' < xs.length - i ∧ m' = xs.length - (i + 1) ∧ i + 1 ≤ xs.length ∧ LcJ K G1 H1 G1 Dl (upto (i + 1)) Hn := fun Hn Gf h => by
        obtain ⟨Gc, us, n, fx, gD, hD, rl⟩ := h
        exact ⟨xs.length - (i + 1), by omega, rfl, by omega, Gc, us, n, n.g, gD, hD, rl⟩
      obtain ⟨Gc, us, n, fx, gD, hD, rl⟩ := inv
      have wc := w1.step n
      obtain ⟨go, yl⟩ := its.go i _ Gc Hc cs hat fx wc hsrc
      refine .inr ⟨go, fun Hn => ∃ Gf, LcJ K G1 H1 Gf Dl (upto (i + 1)) Hn, fun Hn h => by
        obtain ⟨Gf, h⟩ := h
        exact nxt Hn Gf h, fun x H' hy => ?_⟩
      obtain ⟨G4, n4, rx⟩ := yl x H' hy
      refine hg _ hmem G4 H' (wipe σ vs) x n4.s ((e1.mono fx).mono n4.g) rx _ fun σ2 e2 s2 => ⟨wipe_eq s2 hj, ?_⟩
      have w4 := wc.step n4
      refine ht _ hmem G4 H' σ2 w4 e2 _ fun G5 H5 n5 => ?_
      have gD5 : G5 Dl = none := (n4.trans n5).keepN hD gD
      have hD5 : H5 Dl = some (.lst us) := (n4.trans n5).h _ _ hD
      cases hf : f xs[i] with
      | false =>
        have eu : upto (i + 1) = upto i := by
          show ((xs.take (i + 1)).filter f).flatMap _ = _
          rw [tk, List.filter_append, List.filter_cons_of_neg (by rw [hf]; decide), List.filter_nil, List.append_nil]
        rw [eu]
        exact ⟨G1, G5, us, (n.trans n4).trans n5, (fx.trans n4.g).trans n5.g, gD5, hD5, rl.mono (n4.trans n5).g⟩
      | true =>
        have eu : upto (i + 1) = upto i ++ ((ys xs[i]).filter (f1 xs[i])).map (v xs[i]) := by
          show ((xs.take (i + 1)).filter f).flatMap _ = _
          rw [tk, List.filter_append, List.filter_cons_of_pos hf, List.filter_nil, List.flatMap_append]
          simp only [List.flatMap_cons, List.flatMap_nil, List.append_nil]
          rfl
        show wi1 σ2 H5 _
        refine hi1 _ hmem hf G5 H5 σ2 (w4.step n5) (e2.mono n5.g) _ fun J1 G6 H6 n6 hsrc1 its1 => ?_
        have n16 : Nx G1 H1 G6 H6 := ((n.trans n4).trans n5).trans n6
        have e6 : Env K G6 (wipe σ2 vs1) (wipeD (ρ1 xs[i]) vs1) := ((e2.mono n5.g).mono n6.g).wipe vs1
        let inn : Nat → List D := fun j => upto i ++ (((ys xs[i]).take j).filter (f1 xs[i])).map (v xs[i])
        refine ⟨fun j k Hd => k = (ys xs[i]).length - j ∧ j ≤ (ys xs[i]).length ∧ LcJ K G1 H1 G6 Dl (inn j) Hd, ⟨(ys xs[i]).length, rfl, Nat.zero_le _, G6, us, n16, Ex.refl _, n6.keepN hD5 gD5, n6.h _ _ hD5, ?_⟩, fun j k Hd hWd => ?_⟩
        · have e0 : inn 0 = upto i := by
            show upto i ++ _ = _
            simp
          rw [e0]
          exact rl.mono ((n4.trans n5).trans n6).g
        · obtain ⟨rfl, hjl, invd⟩ := hWd
          by_cases hjt : j < (ys xs[i]).length
          · have hm1 : (ys xs[i])[j] ∈ ys xs[i] := List.getElem_mem hjt
            have hat1 : ((ys xs[i]).map enc1)[j]? = some (enc1 (ys xs[i])[j]) := by rw [List.getElem?_map, List.getElem?_eq_getElem hjt]; rfl
            have tk1 : (ys xs[i]).take (j + 1) = (ys xs[i]).take j ++ [(ys xs[i])[j]] := by rw [List.take_add_one, List.getElem?_eq_getElem hjt]; rfl
            have hln : (inn j).length < 100000 := by
              show (upto i ++ _).length < _
              rw [List.length_append, List.length_map]
              have := List.length_filter_le (f1 xs[i]) ((ys xs[i]).take j)
              rw [List.length_take] at this
              omega
            have key := lcJ_turn (Nxt := fun ds Hn => LcJ K G1 H1 G6 Dl (inn (j + 1)) Hn) w1 e6 hDl its1 hsrc1 hat1 invd (hg1 _ hmem hf _ hm1) hj1 (ht1 _ hmem hf _ hm1) (he _ hmem hf _ hm1) hln
              (fun hb Hn h => by
                have e2 : inn (j + 1) = inn j ++ [v xs[i] (ys xs[i])[j]] := by
                  show upto i ++ _ = (upto i ++ _) ++ _
                  rw [tk1, List.filter_append, List.filter_cons_of_pos hb, List.filter_nil, List.map_append, List.append_assoc]
                  rfl
                rw [e2]
                exact h)
              (fun hb Hn h => by
                have e2 : inn (j + 1) = inn j := by
                  show upto i ++ _ = upto i ++ _
                  rw [tk1, List.filter_append, List.filter_cons_of_neg (by rw [hb]; decide), List.filter_nil, List.append_nil]
                rw [e2]
                exact h)
            exact .inr ⟨key.1, fun Hn => LcJ K G1 H1 G6 Dl (inn (j + 1)) Hn, fun Hn h => ⟨(ys xs[i]).length - (j + 1), by omega, rfl, by omega, h⟩, key.2⟩
          · obtain ⟨Gd, us2, nd, fd, gDd, hDd, rld⟩ := invd
            refine .inl ⟨its1.stop j Gd Hd cs (by rw [List.length_map]; omega) fd (w1.step nd) hsrc1, G6, ?_⟩
            have e3 : inn j = upto (i + 1) := by
              rw [eu]
              show upto i ++ _ = _
              rw [List.take_of_length_le (by omega)]
            rw [← e3]
            exact ⟨Gd, us2, nd, fd, gDd, hDd, rld⟩
    · obtain ⟨Gc, us, n, fx, gD, hD, rl⟩ := inv
      refine .inl ⟨its.stop i Gc Hc cs (by rw [List.length_map]; omega) n.g (w1.step n) hsrc, ?_⟩
      have e3 : upto i = (xs.filter f).flatMap fun a => ((ys a).filter (f1 a)).map (v a) := by
        show ((xs.take i).filter f).flatMap _ = _
        rw [List.take_of_length_le (by omega)]
      rw [e3] at rl
      exact q Dl us Gc Hc (n1.trans n) (Evl.fresh_back n1.h hDl) gD hD rl
/-- both clauses without a test, targets names -/
theorem en_flat {α β : Type} {xs : List α} {enc : α → D} {ys : α → List β} {enc1 : β → D} {wi wi1 : TI} {j j1 : Nat} {vs vs1 : List Nat} {src src1 : Cs} {v : α → β → D}
    (hi : EvI K wi ρ cs src (xs.map enc)) (hj : j ∈ vs) (hj1 : j1 ∈ vs1) (hi1 : ∀ a ∈ xs, EvI K wi1 ((wipeD ρ vs).set j (some (enc a))) cs src1 ((ys a).map enc1))
    (he : ∀ a ∈ xs, ∀ b ∈ ys a, Ev K te ((wipeD ((wipeD ρ vs).set j (some (enc a))) vs1).set j1 (some (enc1 b))) cs (v a b)) (hl : (xs.flatMap ys).length ≤ 100000) :
    EvN K (tLc2 wi (gName j) tYes wi1 (gName j1) tYes te vs vs1) ρ cs (xs.flatMap fun a => (ys a).map (v a)) := by
  have h := en_lc2 (f := fun _ => true) (f1 := fun _ _ => true) (v := v) (ρ1 := fun a => (wipeD ρ vs).set j (some (enc a))) (ρ2 := fun a b => (wipeD ((wipeD ρ vs).set j (some (enc a))) vs1).set j1 (some (enc1 b))) (js := [j]) (js1 := [j1]) hi (fun _ _ => eg_name)
    (fun k hk => by rw [List.mem_singleton] at hk; rw [hk]; exact hj) (fun _ _ => et_yes) (fun a ha _ => hi1 a ha) (fun _ _ _ _ _ => eg_name) (fun k hk => by rw [List.mem_singleton] at hk; rw [hk]; exact hj1) (fun _ _ _ _ _ => et_yes) (fun a ha _ b hb _ => he a ha b hb) hl
  have e : (xs.filter fun _ => true) = xs := List.filter_eq_self.mpr fun _ _ => rfl
  rw [e] at h
  refine h.of ?_
  congr 1
  funext a
  rw [List.filter_eq_self.mpr fun _ _ => rfl]
/-! ### zip of two tuples -/
theorem ei_zipT {ta : TA} {xs ys : List D} (h : EvA K ta ρ cs [.tup xs, .tup ys]) : EvI K (RZ.iZipA K ta) ρ cs [] ((xs.zip ys).map fun p => .tup [p.1, p.2]) := fun G H σ w e R q => h G H σ w e _ fun vs G2 H2 n r => by
  cases r with
  | cons r0 r1 =>
    cases r1 with
    | cons r2 r3 =>
      cases r3
      cases r0 with
      | @tup a us _ ha ra =>
        cases r2 with
        | @tup b ws _ hb rb =>
          refine ⟨a, b, us, ws, rfl, .inr ⟨Evl.ex_t n.s ha, Evl.ex_t n.s hb, q _ G2 H2 n no_src ⟨fun i d G3 H3 cs3 hd x w3 _ => ?_, fun i G3 H3 cs3 hi x w3 _ => ?_⟩⟩⟩
          · have hA : SqT K H3 a us := Evl.ex_t (x.trans w3.sub) ha
            have hB : SqT K H3 b ws := Evl.ex_t (x.trans w3.sub) hb
            rw [List.getElem?_map] at hd
            cases hz : (xs.zip ys)[i]? with
            | none => rw [hz] at hd; cases hd
            | some p =>
              rw [hz] at hd
              cases hd
              obtain ⟨h1, h2⟩ := List.getElem?_zip_eq_some.mp hz
              obtain ⟨v1, hv1, rv1⟩ := ra.get h1
              obtain ⟨v2, hv2, rv2⟩ := rb.get h2
              refine ⟨⟨us, ws, v1, v2, hA, hB, hv1, hv2⟩, fun y H' hy => ?_⟩
              obtain ⟨T, x1, x2, rfl, hT, rfl, f1, f2⟩ := hy
              cases (f1 _ hA).symm.trans hv1
              cases (f2 _ hB).symm.trans hv2
              exact ⟨_, Nx.new w3.sub hT, .tup (.inl (.inl upd_same)) (.cons ((rv1.mono x).mono (Ex.new (Evl.fresh_back w3.sub hT))) (.cons ((rv2.mono x).mono (Ex.new (Evl.fresh_back w3.sub hT))) .nil))⟩
          · rw [List.length_map, List.length_zip] at hi
            refine ⟨us, ws, Evl.ex_t (x.trans w3.sub) ha, Evl.ex_t (x.trans w3.sub) hb, ?_⟩
            rw [ra.length, rb.length]
            omega
/-- a, b in a comprehension's or loop's target -/
theorem eg_pair {i j : Nat} {a b : D} : EvG K (gTup K 2 (gCons (gName i) (gCons (gName j) gNil))) (.tup [a, b]) ρ ((ρ.set i (some a)).set j (some b)) [i, j] := eg_tup (egs_cons eg_name (egs_cons eg_name egs_nil)) rfl
end
theorem passNA {X : Cx} {σ : L2.St} : PassesAt (L2N.CX X.prog X.w) X σ E0 := fun pins H s e s' I c => passN pins σ H s e s' I c
end Lv

namespace Lv
open PySem L2
/-! ### the same rules with the written part named -/
section
variable {X : Cx} (K : PySem.W.Frag)
theorem op_addK (h : X.K = K := by rfl) : OpR X (binaryOp .Add) (uAdd K) := h ▸ op_uAdd
theorem op_eqK (hu : X.A.units + 64 < cLine) (h : X.K = K := by rfl) : OpR X (compareOp .Eq) (uEq K) := h ▸ op_uEq hu
theorem op_neK (hu : X.A.units + 64 < cLine) (h : X.K = K := by rfl) : OpR X (compareOp .NotEq) (uNe K) := h ▸ op_uNe hu
theorem op_inK (hu : X.A.units + 65 < cLine) (h : X.K = K := by rfl) : OpR X (compareOp .In) (uIn K) := h ▸ op_uIn hu
theorem op_ninK (hu : X.A.units + 65 < cLine) (h : X.K = K := by rfl) : OpR X (compareOp .NotIn) (uNin K) := h ▸ op_uNin hu
theorem cr_lenK (h : X.K = K := by rfl) : CallR X (.builtin "len") (uLen K) := h ▸ cr_len
theorem cr_listK (h : X.K = K := by rfl) : CallR X (.type "list") (uList K) := h ▸ cr_list
theorem cr_tupleK (h : X.K = K := by rfl) : CallR X (.type "tuple") (uTuple K) := h ▸ cr_tuple
theorem cr_isiK (h : X.K = K := by rfl) : CallR X (.builtin "isinstance") (rIsi K) := h ▸ call_isi
theorem cr_anyK (hc : X.calm = true) (h : X.K = K := by rfl) : CallR X (.builtin "any") (rAny K) := h ▸ cr_any hc
theorem cr_allK (hc : X.calm = true) (h : X.K = K := by rfl) : CallR X (.builtin "all") (rAll K) := h ▸ cr_all hc
theorem ix_seqK (h : X.K = K := by rfl) : IxR X (rIx K) := h ▸ ix_seq
theorem sl_uK (h : X.K = K := by rfl) : SlR X (uSl K) := h ▸ sl_u
theorem pe_fldK {e : Expr} {f : Str} {ta : TE} {pos : Pos} (he : PE X e ta) (hb : attributeBase e f X.env (eval e X.env) = eval e X.env) (h : X.K = K := by rfl) : PE X (.Attribute e f pos) (tFld K ta f) := h ▸ pe_fld he hb
theorem pi_seqK {tg e : Expr} {te : TE} (he : PE X e te) (h : X.K = K := by rfl) : PI X tg e (iSeq K te) := by
  subst h
  exact (pi_list he).or (pi_tup he)
theorem pt_truK {a : Expr} {ta : TE} (ha : PE X a ta) (he : ∀ whole, isTrue a X.env whole = (do let v ← whole; standAt a.pos; holding [v] (truthy v)) := by intro _; rfl) (h : X.K = K := by rfl) : PT X a (uTru K ta) := h ▸ pt_tru ha he
theorem pg_tupK {es : List Expr} {ts : TGs} {k n : Nat} {pos : Pos} (hc : X.calm = true) (hs : PGs X es ts) (hn : (assignEach es X.env).length = n := by rfl) (hst : (assignEach es X.env).findIdx? (·.1) = none := by rfl) (h : X.K = K := by rfl) : PG X (.Tuple es k pos) (gTup K n ts) := by
  subst h
  exact pg_tup hc hs hn hst
theorem pi_zipK {e e2 : Expr} {ta : TA} {p pos tpos : Pos} {elts : List Expr} {kk : Nat} (hg : Gl X "zip") (hm : X.mg "zip" = none) (ha : PA X [e, e2] ta)
    (hs : starEach [e, e2] X.env = (false, eval e X.env) :: starEach [e2] X.env := by rfl) (hpl : (backTo pos (starEach [e2] X.env)).any (·.1) = false := by rfl) (h : X.K = K := by rfl) :
    PI X (.Tuple elts kk tpos) (.Call (.Name "zip" p) [e, e2] [] pos) (RZ.iZipA K ta) := h ▸ RZ.pi_zipA hg hm ha hs hpl
end
end Lv

namespace Lv
open PySem L2
/-! ### the caught suite, with its reading named -/
def tTryN (K : PySem.W.Frag) (c : Value) (i : Nat) (tb : WX → TS) (ts : Addr → Value → Option Addr → TS) (W : WX) : TS := fun D σ H => tb (wAs K c i ts W D) D σ H
section
variable {X : Cx} (K : PySem.W.Frag) {x n : Str} {c : Value} {i : Nat} {body suite : List Stmt} {b₀ : Stmt} {np pos pos' : Pos} {tb : WX → TS} {ts : Addr → Value → Option Addr → TS} {Wout : WX}
theorem ps_tryN (hs : X.stack = X.env :: X.outer) (hf : X.env.frame = some X.env.locals) (hN : X.N.Nodup) (hi : X.N[i]? = some n) (hln : X.env.kindOf n = some .local) (hc : Names X x c) (tk : L2N.Takes X Wout)
    (hb : ∀ (W : WX) (pn : List (Addr × Obj)) (xe : Value → Shared → Prop), L2N.Takes (X.tr pn xe) W → PassesOwn (model X.prog X.w) X.A X.env xe → PSs (X.tr pn xe) body (tb W))
    (hsu : ∀ (a : Addr) (oe : Obj) (cls : Value) (d : Option Addr) (pn : List (Addr × Obj)), L2N.Zn cls d oe → (∃ vs, oe.data = .fields vs) → PSs (X.suite a ((a, oe) :: pn)) (b₀ :: suite) (ts a cls d)) (hK : X.K = K := by rfl) :
    PS X (.Try body [.ExceptHandler (some (.Name x np)) (some n) (b₀ :: suite) pos'] [] [] pos) (tTryN K c i tb ts Wout) := by
  subst hK
  exact L2N.ps_try_as hs hf hN hi hln hc tk hb hsu
end
section
variable {K : PySem.W.Frag} {W : WX} {bs : List Addr} {ρ : Ro} {cs : List (Addr × D)} {P : Po}
theorem sv_tryN {tb : WX → TS} {ts : Addr → Value → Option Addr → TS} {c : Value} {i : Nat}
    (h : ∀ W', Sv K W' bs (tb W') ρ cs { P with ex := fun ρ' cs' cls fs => ∃ b, PySem.W.exmOne K cls c = some b ∧
      (b = true → ∀ a dd, ddOk dd fs → (∀ p, dd = some p → p ∉ bs ∧ ∀ c ∈ cs', c.1 ≠ p) → Sv K W bs (ts a cls dd) (ρ'.set i (some (.any (.ref a)))) (exC dd fs cs') { nx := fun ρ2 cs2 => P.nx (ρ2.set i none) cs2, rt := P.rt, bk := fun ρ2 cs2 => P.bk (ρ2.set i none) cs2, ct := fun ρ2 cs2 => P.ct (ρ2.set i none) cs2, ex := P.ex }) ∧ (b = false → P.ex ρ' cs' cls fs) }) :
    Sv K W bs (tTryN K c i tb ts W) ρ cs P := sv_try h
end
end Lv

namespace Lv
open PySem L2
open Evl (Ex)
/-! ### dicts -/
section
variable {κ : Type} [DecidableEq κ]
def valD (es : List (κ × D)) (k : κ) : Option D := (es.find? fun e => decide (e.1 = k)).map (·.2)
def putE (es : List (κ × D)) (k : κ) (d : D) : List (κ × D) := if (es.any fun e => decide (e.1 = k)) = true then es.map (fun e => if e.1 = k then (e.1, d) else e) else es ++ [(k, d)]
def KRep (K : PySem.W.Frag) (G : Hp) (vs : List (κ × V)) (es : List (κ × D)) : Prop := vs.map Prod.fst = es.map Prod.fst ∧ RepL K G (vs.map Prod.snd) (es.map Prod.snd)
variable {K : PySem.W.Frag} {G : Hp}
theorem KRep.cases {vs : List (κ × V)} {es : List (κ × D)} (h : KRep K G vs es) : (vs = [] ∧ es = []) ∨ ∃ k v d vs' es', vs = (k, v) :: vs' ∧ es = (k, d) :: es' ∧ Rep K G v d ∧ KRep K G vs' es' := by
  obtain ⟨h1, h2⟩ := h
  cases vs with
  | nil =>
    cases es with
    | nil => exact .inl ⟨rfl, rfl⟩
    | cons e es => cases h1
  | cons p vs =>
    cases es with
    | nil => cases h1
    | cons e es =>
      obtain ⟨k, v⟩ := p
      obtain ⟨k2, d⟩ := e
      rw [List.map_cons, List.map_cons, List.cons.injEq] at h1
      obtain ⟨h3, h4⟩ := h1
      cases h3
      cases h2 with
      | cons a b => exact .inr ⟨k, v, d, vs, es, rfl, rfl, a, h4, b⟩
theorem KRep.cons {vs : List (κ × V)} {es : List (κ × D)} {k : κ} {v : V} {d : D} (hv : Rep K G v d) (h : KRep K G vs es) : KRep K G ((k, v) :: vs) ((k, d) :: es) := ⟨by rw [List.map_cons, List.map_cons, h.1], .cons hv h.2⟩
theorem KRep.nil : KRep K G ([] : List (κ × V)) ([] : List (κ × D)) := ⟨rfl, .nil⟩
theorem KRep.any {k : κ} : ∀ {vs : List (κ × V)} {es : List (κ × D)}, KRep K G vs es → (vs.any fun e => decide (e.1 = k)) = es.any fun e => decide (e.1 = k)
  | vs, es, h => by
    have e1 : (vs.any fun e => decide (e.1 = k)) = (vs.map Prod.fst).any fun x => decide (x = k) := by rw [List.any_map]; rfl
    have e2 : (es.any fun e => decide (e.1 = k)) = (es.map Prod.fst).any fun x => decide (x = k) := by rw [List.any_map]; rfl
    rw [e1, e2, h.1]
theorem KRep.val {k : κ} : ∀ {vs : List (κ × V)} {es : List (κ × D)}, KRep K G vs es → (valD es k = none ∧ valV vs k = none) ∨ ∃ v d, valD es k = some d ∧ valV vs k = some v ∧ Rep K G v d
  | vs, es, h => by
    induction vs generalizing es with
    | nil =>
      rcases h.cases with ⟨_, rfl⟩ | ⟨_, _, _, _, _, e, _⟩
      · exact .inl ⟨rfl, rfl⟩
      · cases e
    | cons p vs ih =>
      rcases h.cases with ⟨e, _⟩ | ⟨k1, v, d, vs', es', e, rfl, hr, h2⟩
      · cases e
      · cases e
        by_cases hk : k1 = k
        · exact .inr ⟨v, d, by simp [valD, List.find?_cons, hk], valV_pos (p := (k1, v)) hk, hr⟩
        · have e1 : valD ((k1, d) :: es') k = valD es' k := by simp [valD, List.find?_cons, hk]
          rw [e1, valV_neg (p := (k1, v)) hk]
          exact ih _ h2
theorem KRep.set {k : κ} {v : V} {d : D} (hv : Rep K G v d) : ∀ {vs : List (κ × V)} {es : List (κ × D)}, KRep K G vs es → KRep K G (vs.map fun e => if e.1 = k then (e.1, v) else e) (es.map fun e => if e.1 = k then (e.1, d) else e)
  | vs, es, h => by
    induction vs generalizing es with
    | nil =>
      rcases h.cases with ⟨_, rfl⟩ | ⟨_, _, _, _, _, e, _⟩
      · exact .nil
      · cases e
    | cons p vs ih =>
      rcases h.cases with ⟨e, _⟩ | ⟨k1, v1, d1, vs', es', e, rfl, hr, h2⟩
      · cases e
      · cases e
        rw [List.map_cons, List.map_cons]
        by_cases hk : k1 = k
        · simp only [hk, if_true]
          exact .cons hv (ih _ h2)
        · simp only [hk, if_false]
          exact .cons hr (ih _ h2)
theorem KRep.append {vs us : List (κ × V)} {es fs : List (κ × D)} (h : KRep K G vs es) (h2 : KRep K G us fs) : KRep K G (vs ++ us) (es ++ fs) := ⟨by rw [List.map_append, List.map_append, h.1, h2.1], by rw [List.map_append, List.map_append]; exact h.2.append h2.2⟩
theorem KRep.put {k : κ} {v : V} {d : D} {vs : List (κ × V)} {es : List (κ × D)} (h : KRep K G vs es) (hv : Rep K G v d) : KRep K G (putK vs k v) (putE es k d) := by
  unfold putK putE
  rw [h.any]
  by_cases hk : (es.any fun e => decide (e.1 = k)) = true
  · rw [if_pos hk, if_pos hk]
    exact h.set hv
  · rw [if_neg hk, if_neg hk]
    exact h.append (.cons hv .nil)
theorem KRep.length {vs : List (κ × V)} {es : List (κ × D)} (h : KRep K G vs es) : vs.length = es.length := by
  have := congrArg List.length h.1
  rwa [List.length_map, List.length_map] at this
theorem putE_len {es : List (κ × D)} {k : κ} {d : D} : (putE es k d).length ≤ es.length + 1 := by
  unfold putE
  split <;> simp
theorem valD_put {es : List (κ × D)} {k j : κ} {d : D} : valD (putE es k d) j = if j = k then some d else valD es j := by
  unfold putE valD
  by_cases hk : (es.any fun e => decide (e.1 = k)) = true
  · rw [if_pos hk]
    induction es with
    | nil => cases hk
    | cons e es ih =>
      rw [List.map_cons]
      by_cases he : e.1 = k
      · by_cases hj : j = k
        · subst hj
          simp [List.find?_cons, he]
        · have hj2 : ¬ k = j := fun z => hj z.symm
          have h3 : ¬ e.1 = j := fun z => hj (z.symm.trans he)
          rw [if_neg hj]
          simp only [he, if_true, List.find?_cons, decide_eq_false hj2]
          clear ih hk
          induction es with
          | nil => rfl
          | cons f es ih2 =>
            rw [List.map_cons]
            by_cases hf : f.1 = k
            · simp only [hf, if_true, List.find?_cons, decide_eq_false hj2]
              exact ih2
            · simp only [hf, if_false, List.find?_cons]
              by_cases hfj : f.1 = j
              · simp [hfj]
              · simp only [decide_eq_false hfj]
                exact ih2
      · have hk2 : (es.any fun e => decide (e.1 = k)) = true := by simpa [he] using hk
        have ih2 := ih hk2
        simp only [he, if_false, List.find?_cons]
        by_cases hej : e.1 = j
        · have hne : ¬ j = k := fun z => he (hej.trans z)
          simp [hej, hne]
        · simp only [decide_eq_false hej]
          exact ih2
  · rw [if_neg hk, List.find?_append]
    by_cases hj : j = k
    · subst hj
      have : es.find? (fun e => decide (e.1 = j)) = none := by
        rw [List.find?_eq_none]
        intro x hx hxj
        exact hk (List.any_eq_true.mpr ⟨x, hx, hxj⟩)
      rw [this, if_pos rfl]
      simp
    · rw [if_neg hj]
      have hj2 : ¬ k = j := fun z => hj z.symm
      cases es.find? fun e => decide (e.1 = j) <;> simp [hj2]
end
def keyD : L2.Key → D
  | .inl i => .int i
  | .inr s => .str s
section
variable {K : PySem.W.Frag} {G G0 G1 G2 H H0 H1 H2 H3 G3 : Hp} {ρ ρ1 : Ro} {cs : Cs} {ta tb te tx td ty tv : TE} {tt tt1 : TT} {d d' e x y z : D} {W : WX} {bs : List Addr} {P : Po} {t u v : TS}
theorem Rep.key {v : V} {k : L2.Key} (h : Rep K G v (keyD k)) : v = kV k := by
  cases k with
  | inl i => cases h; rfl
  | inr s => cases h; rfl
theorem RepC.dikC {v : V} {es : List (L2.Key × D)} (w : Wl K G H cs) (r : RepC K G cs v (.dik es)) : ∃ a vs, v = .ref a ∧ H a = some (.dK vs) ∧ KRep K G vs es := by
  rcases r with r | ⟨a, rfl, c⟩
  · cases r with
    | dik h k r => exact ⟨_, _, rfl, w.sub _ _ h, k, r⟩
  · obtain ⟨_, vs, e, k, r⟩ := w.cell _ c
    exact ⟨a, vs, rfl, e, k, r⟩
theorem Ev.key {k : L2.Key} (h : Ev K ty ρ cs (keyD k)) (Q : VK) {σ : L2.St} (w : Wl K G H cs) (e : Env K G σ ρ) (q : ∀ G2 H2, Nx G H G2 H2 → Q (kV k) H2) : ty σ H Q := h G H σ w e _ fun v G2 H2 n r => by
  rw [r.key]
  exact q G2 H2 n
theorem ev_din {k : L2.Key} {es : List (L2.Key × D)} (hy : Ev K ty ρ cs (keyD k)) (hd : EvR K td ρ cs (.dik es)) : Ev K (tDIn ty td) ρ cs (.bl (valD es k).isSome) := fun G H σ w e Q q =>
  hy.key _ w e fun G2 H2 n => hd G2 H2 σ (w.step n) (e.mono n.g) _ fun v G3 H3 n3 r => by
    obtain ⟨a, vs, rfl, ha, kr⟩ := r.dikC ((w.step n).step n3)
    refine ⟨a, _, rfl, DGet.k ha, ?_⟩
    rcases kr.val (k := k) with ⟨e1, e2⟩ | ⟨v, d, e1, e2, _⟩
    · rw [e2]
      have := q (.bl false) G3 H3 (n.trans n3)
      rw [e1] at this
      exact this (.bl _)
    · rw [e2]
      have := q (.bl true) G3 H3 (n.trans n3)
      rw [e1] at this
      exact this (.bl _)
theorem ev_dget {k : L2.Key} {es : List (L2.Key × D)} (hd : EvR K td ρ cs (.dik es)) (hy : Ev K ty ρ cs (keyD k)) (hv : valD es k = some d) : Ev K (tDGet td ty) ρ cs d := fun G H σ w e Q q =>
  hd G H σ w e _ fun v G2 H2 n r => hy.key _ (w.step n) (e.mono n.g) fun G3 H3 n3 => by
    obtain ⟨a, vs, rfl, ha, kr⟩ := (r.mono n3).dikC ((w.step n).step n3)
    rcases kr.val (k := k) with ⟨e1, e2⟩ | ⟨v, d2, e1, e2, rv⟩
    · rw [e1] at hv; cases hv
    · rw [e1] at hv
      cases hv
      refine ⟨a, v, rfl, ?_, q v G3 H3 (n.trans n3) rv⟩
      rw [← e2]
      exact DGet.k ha
/-- a new cell d -/
def EvD (K : PySem.W.Frag) (te : TE) (ρ : Ro) (cs : Cs) (d : D) : Prop := ∀ G H σ, Wl K G H cs → Env K G σ ρ → ∀ Q : VK, (∀ p G2 H2, Nx G H G2 H2 → H p = none → G2 p = none → Cell K G2 H2 p d → Q (.ref p) H2) → te σ H Q
theorem ed_newK : EvD K tDNewK ρ cs (.dik []) := fun G H σ w e Q q p hp => q p G _ (Nx.newc w.sub hp) hp (Evl.fresh_back w.sub hp) ⟨[], upd_same, rfl, .nil⟩
theorem ed_newT : EvD K tDNewT ρ cs (.dit []) := fun G H σ w e Q q p hp => q p G _ (Nx.newc w.sub hp) hp (Evl.fresh_back w.sub hp) ⟨[], upd_same, rfl, .nil⟩
theorem Rl.newCellD {p : Addr} (r : Rl K G0 H0 bs G H cs) (hp0 : H0 p = none) (gp : G p = none) (hp : Cell K G H p d) (hc : ∀ c ∈ cs, c.1 ≠ p) : Rl K G0 H0 bs G H ((p, d) :: cs) :=
  ⟨⟨r.wl.sub, fun c h => by
    rcases List.mem_cons.mp h with rfl | h
    · exact ⟨gp, hp⟩
    · exact r.wl.cell c h, by
    rw [List.map_cons, List.nodup_cons]
    refine ⟨fun h => ?_, r.wl.nd⟩
    obtain ⟨c, h1, h2⟩ := List.mem_map.mp h
    exact hc c h1 h2⟩, r.g0, r.h0, r.nw, fun c h => by
    rcases List.mem_cons.mp h with rfl | h
    · exact .inr hp0
    · exact r.cl c h, r.bd, r.b0⟩
theorem sv_setD {i : Nat} (h : EvD K te ρ cs d) (k : ∀ a, a ∉ bs → (∀ c ∈ cs, c.1 ≠ a) → P.nx (ρ.set i (some (.any (.ref a)))) ((a, d) :: cs)) : Sv K W bs (tAsg te (gName i)) ρ cs P := fun G0 H0 G H σ E r e o =>
  h G H σ r.wl e _ fun p G2 H2 n hp gp hc => by
    obtain ⟨a1, a2, a3⟩ := r.none0 hp
    exact o.nx G2 H2 _ _ _ ((r.step n).newCellD a1 gp hc a3) ((e.mono n.g).set i (.any _)) (k p a2 a3)
theorem q_setD {i : Nat} (h : EvD K te ρ cs d) (k : ∀ a, a ∉ bs → (∀ c ∈ cs, c.1 ≠ a) → Sv K W bs u (ρ.set i (some (.any (.ref a)))) ((a, d) :: cs) P) : Sv K W bs (tSeq (tAsg te (gName i)) u) ρ cs P := sv_seq (sv_setD h k)
theorem sv_dput {a : Addr} {k : L2.Key} {es : List (L2.Key × D)} (hc : (a, .dik es) ∈ cs) (ho : Ev K td ρ cs (.any (.ref a))) (hy : Ev K ty ρ cs (keyD k)) (hv : Ev K tv ρ cs d) (hz : es.length < 100000) (kk : P.nx ρ (setC a (.dik (putE es k d)) cs)) :
    Sv K W bs (sDPut td ty tv) ρ cs P := fun G0 H0 G H σ E r e o => hv G H σ r.wl e _ fun v G2 H2 n rv => ho G2 H2 σ (r.step n).wl (e.mono n.g) _ fun x G3 H3 n3 rx => by
  cases rx
  refine hy.key _ ((r.step n).step n3).wl ((e.mono n.g).mono n3.g) fun G4 H4 n4 => ?_
  have r4 := ((r.step n).step n3).step n4
  obtain ⟨_, vs, hvs, kr⟩ := r4.wl.cell _ hc
  have kr : KRep K G4 vs es := kr
  refine ⟨a, _, rfl, DPut.k hvs (by rw [kr.length]; exact Evl.sz_lt hz), ?_⟩
  refine o.nx G4 _ _ _ _ (r4.write (d' := .dik (putE es k d)) hc ⟨_, upd_same, (kr.put ((rv.mono n3.g).mono n4.g)).1, (kr.put ((rv.mono n3.g).mono n4.g)).2⟩) (((e.mono n.g).mono n3.g).mono n4.g) kk
theorem sv_forLZ {α : Type} {xs : List α} {enc : α → D} {wi : TI} {j : Nat} {src : Cs} (hi : EvI K wi ρ cs src (xs.map enc)) (R : Nat → Ro) (C : Nat → Cs) (Z : Nat → Prop) (h0 : le (R 0) ρ) (hc0 : cs = C 0) (hz : Z 0) (hk : ∀ i, ∀ c ∈ src, c ∈ C i)
    (hs : ∀ (i : Nat) a, xs[i]? = some a → Z i → Sv K W bs t ((R i).set j (some (enc a))) (C i) { P with nx := fun ρ' cs' => le (R (i + 1)) ρ' ∧ cs' = C (i + 1) ∧ Z (i + 1), ct := fun ρ' cs' => le (R (i + 1)) ρ' ∧ cs' = C (i + 1) ∧ Z (i + 1), bk := P.nx })
    (hd : Z xs.length → ∀ ρ', le (R xs.length) ρ' → P.nx ρ' (C xs.length)) : Sv K W bs (tFor wi (gName j) t) ρ cs P := by
  refine sv_forF hi R C Z h0 hc0 hz hk (fun i d h hZ => ?_) (fun hZ ρ' hl => ?_)
  · rw [List.getElem?_map] at h
    cases hr : xs[i]? with
    | none => rw [hr] at h; cases h
    | some m =>
      rw [hr] at h
      cases h
      exact ⟨_, [j], eg_name, hs i m hr hZ⟩
  · rw [List.length_map] at hl hZ ⊢
    exact hd hZ ρ' hl
end
theorem u1 {A : Around} {k : Nat} (hr : Room k A) : A.units + 1 < cLine := by have := hr.un; omega
end Lv

namespace Lv
open PySem L2
open Evl (Ex)
/-! ### x in an object, by the class's own method -/
def tOwnIn (C : Addr) (sp : Sp) (E : L2.St → XK) (ta tb : TE) : TE := fun σ H Q => ta σ H fun x H1 => tb σ H1 fun y H2 => ∃ b dx fs, y = .ref b ∧ H2 b = some (.ins C dx fs) ∧ sp [y, x] H2 (fun v H3 => ∃ r, v = .bl r ∧ Q (.bl r) H3) (E σ)
structure Oi (P : Program) (w : World) (K : PySem.W.Frag) (mg : Str → Option Value) (base : Heap) (k : Nat) (C : Addr) (ps : List Str) (sp : Sp) : Prop where
  ex : ∃ f fd, PySem.W.findIn K (.ref C) "__contains__" = some (some (.ref f)) ∧ PySem.W.isFn K (.ref f) = true ∧ FnOk P w K mg base (L2N.CX P w) k f fd ps sp ∧ Binds K fd ps []
section
variable {X : Cx} {ta tb : TE} {C : Addr} {sp : Sp} {j k : Nat} {ps : List Str} {pos : Pos}
theorem pc_ownIn {E : L2.St → XK} {a b : Expr} (O : Oi X.prog X.w X.K X.mg X.base j C ps sp) (hr : Room k X.A) (hx : ∀ σ, PassesAt (L2N.CX X.prog X.w) X σ (E σ)) (ha : PE X a ta) (hb : PE X b tb) (hj : j ≤ k := by decide) : PC X .In a b (tOwnIn C sp E ta tb) := by
  obtain ⟨f, fd, h1, h2, h3, h4⟩ := O.ex
  refine ⟨fun pins s σ H Q I h => ?_⟩
  refine thn (ha.run pins s σ H _ I h) fun v s1 ⟨x, H1, I1, rx, q1⟩ => thn (hb.run pins s1 σ H1 _ I1 q1) fun u s2 ⟨y, H2, I2, ry, b, dx, fs, ey, eb, q⟩ => ?_
  subst ey
  cases ry
  obtain ⟨mB, J, _⟩ := ins_get I2.hok eb
  obtain ⟨od, J, _⟩ := J.look
  obtain ⟨m, hF⟩ := I2.fr
  refine PySem.W.in_K hF I2.ok.mod.kin J h1 h2 ?_
  refine wpAny_mono (run_fnS (E := E) (us := [.ref b, v]) (vs := [.ref b, x]) h3 (hr.mono hj) h4 (hx σ) I2 (.cons rfl (.cons rx .nil)) q) (fun r s' z => ?_) fun _ _ z => z
  obtain ⟨v', H', I', rv, r', rfl, q'⟩ := z
  cases rv
  exact wpAny_truthy_bool ⟨.bl r', H', I', rfl, q'⟩
end
section
variable {K : PySem.W.Frag} {G H : Hp} {ρ : Ro} {cs : Cs} {ta tb : TE} {x : D} {W : WX} {C : Addr} {sp : Sp}
theorem ev_ownIn {E : L2.St → XK} {fs : List (Str × D)} {r : Bool} (h1 : Ev K ta ρ cs x) (h2 : Ev K tb ρ cs (.obj C fs)) (hs : SpD K sp [.obj C fs, x] (.bl r)) : Ev K (tOwnIn C sp E ta tb) ρ cs (.bl r) := fun G H σ w e Q q =>
  h1 G H σ w e _ fun v G2 H2 n rx => h2 G2 H2 σ (w.step n) (e.mono n.g) _ fun u G3 H3 n3 ry => by
    cases ry with
    | obj hg rf =>
      refine ⟨_, _, _, rfl, n3.s _ _ hg, hs G3 H3 _ n3.s (.cons (.obj hg rf) (.cons (rx.mono n3.g) .nil)) _ _ fun v' G4 H4 n4 r4 => ?_⟩
      cases r4
      exact ⟨_, rfl, q _ G4 H4 ((n.trans n3).trans n4) (.bl _)⟩
end
def conB (K : PySem.W.Frag) (C : Addr) : Bool := He.eqO (PySem.W.findIn K (.ref C) "__contains__") (some (some (.ref (He.ma K C "__contains__")))) && PySem.W.isFn K (.ref (He.ma K C "__contains__"))
end Lv

namespace Lv
open PySem L2
open Evl (Ex)
/-! ### list cells handed to a def that only reads them -/
mutual
/-- no list in it -/
def nl : D → Bool
  | .non => true
  | .bl _ => true
  | .int _ => true
  | .str _ => true
  | .tup xs => nlL xs
  | .obj _ fs => nlF fs
  | .any _ => true
  | _ => false
def nlL : List D → Bool
  | [] => true
  | x :: xs => nl x && nlL xs
def nlF : List (Str × D) → Bool
  | [] => true
  | (_, x) :: xs => nl x && nlF xs
end
def lstC (cs : Cs) : Prop := ∀ c ∈ cs, ∃ ds, c.2 = D.lst ds
open Classical in
noncomputable def vw (G H : Hp) (cs : Cs) : Hp := fun b => if ∃ c ∈ cs, c.1 = b then H b else G b
open Classical in
noncomputable def unv (G : Hp) (cs : Cs) : Hp := fun b => if ∃ c ∈ cs, c.1 = b then none else G b
section
variable {K : PySem.W.Frag} {G G0 G1 G2 H H0 H1 H2 H3 G3 : Hp} {ρ ρ1 : Ro} {cs : Cs} {ta tb te tx td ty tv : TE} {d d' e x y z : D} {W : WX} {bs : List Addr} {P : Po} {t u v : TS}
theorem vw_in {b : Addr} (h : ∃ c ∈ cs, c.1 = b) : vw G H cs b = H b := by unfold vw; rw [if_pos h]
theorem vw_out {b : Addr} (h : ¬ ∃ c ∈ cs, c.1 = b) : vw G H cs b = G b := by unfold vw; rw [if_neg h]
theorem unv_in {b : Addr} (h : ∃ c ∈ cs, c.1 = b) : unv G cs b = none := by unfold unv; rw [if_pos h]
theorem unv_out {b : Addr} (h : ¬ ∃ c ∈ cs, c.1 = b) : unv G cs b = G b := by unfold unv; rw [if_neg h]
theorem vw_ex (w : Wl K G H cs) : Ex G (vw G H cs) := fun b o hb => by
  have hn : ¬ ∃ c ∈ cs, c.1 = b := fun ⟨c, hc, e⟩ => by
    have := (w.cell c hc).1
    rw [e, hb] at this
    cases this
  rw [vw_out hn]
  exact hb
theorem vw_sub (w : Wl K G H cs) : Ex (vw G H cs) H := fun b o hb => by
  by_cases h : ∃ c ∈ cs, c.1 = b
  · rw [vw_in h] at hb
    exact hb
  · rw [vw_out h] at hb
    exact w.sub b o hb
theorem vw_rep {v : V} (w : Wl K G H cs) (hl : lstC cs) (r : RepC K G cs v d) : Rep K (vw G H cs) v d := by
  rcases r with r | ⟨a, rfl, c⟩
  · exact r.mono (vw_ex w)
  · obtain ⟨ds, rfl⟩ := hl _ c
    obtain ⟨_, vs, e, r⟩ := w.cell _ c
    refine .lst ?_ (r.mono (vw_ex w))
    rw [vw_in ⟨_, c, rfl⟩]
    exact e
theorem vw_repL (w : Wl K G H cs) (hl : lstC cs) : ∀ {vs : List V} {ds : List D}, RepCL K G cs vs ds → RepL K (vw G H cs) vs ds
  | _, _, .nil => .nil
  | _, _, .cons r rs => .cons (vw_rep w hl r) (vw_repL w hl rs)
theorem nx_back (w : Wl K G H cs) (n : Nx (vw G H cs) H G2 H2) : Nx G H (unv G2 cs) H2 := by
  refine ⟨fun b o hb => ?_, n.h, fun b o hb => ?_, fun b o hb hg => ?_⟩
  · have hn : ¬ ∃ c ∈ cs, c.1 = b := fun ⟨c, hc, e⟩ => by
      have := (w.cell c hc).1
      rw [e, hb] at this
      cases this
    rw [unv_out hn]
    exact n.g b o (vw_ex w b o hb)
  · by_cases h : ∃ c ∈ cs, c.1 = b
    · rw [unv_in h] at hb
      cases hb
    · rw [unv_out h] at hb
      exact n.s b o hb
  · by_cases h : ∃ c ∈ cs, c.1 = b
    · rw [unv_in h] at hb
      cases hb
    · rw [unv_out h] at hb
      exact n.f b o hb (by rw [vw_out h]; exact hg)
theorem vw_lst (w : Wl K G H cs) (hl : lstC cs) (n : Ex (vw G H cs) G2) : ∀ c ∈ cs, ∃ us, G2 c.1 = some (.lst us) := fun c hc => by
  obtain ⟨ds, e⟩ := hl c hc
  obtain ⟨_, k⟩ := w.cell c hc
  rw [e] at k
  obtain ⟨vs, e2, _⟩ := k
  refine ⟨vs, n _ _ ?_⟩
  rw [vw_in ⟨c, hc, rfl⟩]
  exact e2
theorem unv_at {b : Addr} {o : HO} (hL : ∀ c ∈ cs, ∃ us, G2 c.1 = some (.lst us)) (h : G2 b = some o) (ho : ∀ us, o ≠ .lst us) : unv G2 cs b = some o := by
  rw [unv_out]
  · exact h
  · rintro ⟨c, hc, rfl⟩
    obtain ⟨us, hu⟩ := hL c hc
    rw [h] at hu
    cases hu
    exact ho us rfl
mutual
theorem Rep.unv (hL : ∀ c ∈ cs, ∃ us, G2 c.1 = some (.lst us)) : ∀ {v : V} {d : D}, Rep K G2 v d → nl d = true → Rep K (unv G2 cs) v d
  | _, _, .non, _ => .non
  | _, _, .bl b, _ => .bl b
  | _, _, .int i, _ => .int i
  | _, _, .str s, _ => .str s
  | _, _, .tup h r, p => by
    rw [nl] at p
    refine .tup ?_ (RepL.unv hL r p)
    rcases h with (h | h) | h
    · exact .inl (.inl (unv_at hL h fun us e => by cases e))
    · obtain ⟨q1, q2⟩ := h
      exact .inl (.inr ⟨q1, unv_at hL q2 fun us e => by cases e⟩)
    · exact .inr h
  | _, _, .lst h r, p => by rw [nl] at p <;> first | cases p | simp
  | _, _, .obj h r, p => by
    rw [nl] at p
    exact .obj (unv_at hL h fun us e => by cases e) (RepF.unv hL r p)
  | _, _, .scr h, p => by rw [nl] at p <;> first | cases p | simp
  | _, _, .dik h _ r, p => by rw [nl] at p <;> first | cases p | simp
  | _, _, .dit h _ r, p => by rw [nl] at p <;> first | cases p | simp
  | _, _, .any v, _ => .any v
theorem RepL.unv (hL : ∀ c ∈ cs, ∃ us, G2 c.1 = some (.lst us)) : ∀ {vs : List V} {ds : List D}, RepL K G2 vs ds → nlL ds = true → RepL K (unv G2 cs) vs ds
  | _, _, .nil, _ => .nil
  | _, _, .cons h r, p => by
    rw [nlL, Bool.and_eq_true_iff] at p
    exact .cons (Rep.unv hL h p.1) (RepL.unv hL r p.2)
theorem RepF.unv (hL : ∀ c ∈ cs, ∃ us, G2 c.1 = some (.lst us)) : ∀ {vs : List (Str × V)} {ds : List (Str × D)}, RepF K G2 vs ds → nlF ds = true → RepF K (unv G2 cs) vs ds
  | _, _, .nil, _ => .nil
  | _, _, .cons h r, p => by
    rw [nlF, Bool.and_eq_true_iff] at p
    exact .cons (Rep.unv hL h p.1) (RepF.unv hL r p.2)
end
def nlO : Out → Bool
  | .ret d => nl d
  | .new ds => nlL ds
  | .exc _ none => true
  | .exc _ (some fs) => nlF fs
theorem gets_unv {Q : VK} {E : XK} {o : Out} (w : Wl K G H cs) (hl : lstC cs) (hn : nlO o = true) (q : Gets K G H Q E o) : Gets K (vw G H cs) H Q E o := by
  cases o with
  | ret d => exact fun v G2 H2 n r => q v _ H2 (nx_back w n) (r.unv (vw_lst w hl n.g) hn)
  | new ds =>
    intro p us G2 H2 n hp gp h2 r
    refine q p us _ H2 (nx_back w n) hp ?_ h2 (r.unv (vw_lst w hl n.g) hn)
    by_cases h : ∃ c ∈ cs, c.1 = p
    · exact unv_in h
    · rw [unv_out h]; exact gp
  | exc cls fs =>
    intro dd G2 H2 n x xn
    refine q dd _ H2 (nx_back w n) ?_ fun p hp => ⟨(xn p hp).1, ?_, (xn p hp).2.2⟩
    · cases fs with
      | none => exact x
      | some fs =>
        obtain ⟨p, vs, e1, e2, r⟩ := x
        exact ⟨p, vs, e1, e2, r.unv (vw_lst w hl n.g) hn⟩
    · by_cases h : ∃ c ∈ cs, c.1 = p
      · exact unv_in h
      · rw [unv_out h]; exact (xn p hp).2.1
theorem ee_callV {sp : Sp} {ta : TA} {ds : List D} {o : Out} (h : EvAR K ta ρ cs ds) (hs : SpX K sp ds o) (hl : lstC cs) (hn : nlO o = true) : EvE K W (tCallS sp (WE W) ta) ρ cs o := fun G H σ w e Q q =>
  h G H σ w e _ fun vs G2 H2 n rs => hs _ H2 vs (vw_sub (w.step n)) (vw_repL (w.step n) hl rs) Q _ (gets_unv (w.step n) hl hn (gets_step n q))
theorem ev_callV {sp : Sp} {ta : TA} {ds : List D} (h : EvAR K ta ρ cs ds) (hs : SpX K sp ds (.ret z)) (hl : lstC cs) (hn : nl z = true) : Ev K (tCallS sp (WE W) ta) ρ cs z := ee_callV h hs hl hn
theorem ee_methV {C : Addr} {m : Str} {sp : Sp} {ta : TE} {t : TA} {fs : List (Str × D)} {ds : List D} {o : Out} (ho : Ev K ta ρ cs (.obj C fs)) (hm : fs.lookup m = none) (h : EvAR K t ρ cs ds) (hs : SpX K sp (.obj C fs :: ds) o) (hl : lstC cs) (hn : nlO o = true) : EvE K W (tMethW C m sp (WE W) ta t) ρ cs o := fun G H σ w e Q q =>
  ho G H σ w e _ fun v G2 H2 n r => by
    cases r with
    | obj hg rf =>
      refine ⟨_, _, _, rfl, n.s _ _ hg, rf.lookup_none hm, h G2 H2 σ (w.step n) (e.mono n.g) _ fun vs G3 H3 n2 rs => ?_⟩
      have w3 := (w.step n).step n2
      exact hs _ H3 _ (vw_sub w3) (.cons ((Rep.obj (n2.g _ _ hg) (rf.mono n2.g)).mono (vw_ex w3)) (vw_repL w3 hl rs)) Q _ (gets_unv w3 hl hn (gets_step (n.trans n2) q))
theorem ev_methV {C : Addr} {m : Str} {sp : Sp} {ta : TE} {t : TA} {fs : List (Str × D)} {ds : List D} (ho : Ev K ta ρ cs (.obj C fs)) (hm : fs.lookup m = none) (h : EvAR K t ρ cs ds) (hs : SpX K sp (.obj C fs :: ds) (.ret z)) (hl : lstC cs) (hn : nl z = true) : Ev K (tMethW C m sp (WE W) ta t) ρ cs z := ee_methV ho hm h hs hl hn
theorem ee_makeV {n : Nat} {A : List D → Out → Prop} {C : Addr} {cls : Value} {fs : Option (List (Str × D))} {ta : TA} {ds : List D} (h : EvAR K ta ρ cs ds) (hA : A ds (.exc cls fs)) (hn : ds.length = n) (hl : lstC cs) (hz : nlO (.exc cls fs) = true) : EvE K W (tMakeS C (spI K C n A) (WE W) ta) ρ cs (.exc cls fs) := fun G H σ w e Q q =>
  h G H σ w e _ fun vs G2 H2 nx rs x dx hx hdx hne => make_ok (o := .exc cls fs) (sp := fun _ _ _ _ => True) (vw_sub (w.step nx)) (vw_repL (w.step nx) hl rs) hn hA trivial (gets_unv (w.step nx) hl hz (gets_step nx q)) x dx hx hdx hne
theorem ev_makeV {n : Nat} {A : List D → Out → Prop} {C : Addr} {fs : List (Str × D)} {ta : TA} {ds : List D} (h : EvAR K ta ρ cs ds) (hA : A ds (.ret (.obj C fs))) (hn : ds.length = n) (hl : lstC cs) (hz : nlF fs = true) : Ev K (tMakeS C (spI K C n A) (WE W) ta) ρ cs (.obj C fs) := fun G H σ w e Q q =>
  h G H σ w e _ fun vs G2 H2 nx rs x dx hx hdx hne => make_ok (o := .ret (.obj C fs)) (sp := fun _ _ _ _ => True) (vw_sub (w.step nx)) (vw_repL (w.step nx) hl rs) hn hA rfl (gets_unv (w.step nx) hl (by show nl (.obj C fs) = true; rw [nl]; exact hz) (gets_step nx q)) x dx hx hdx hne
/-! ### list.insert -/
def rInsV : V → List V → Hp → VK → Prop := fun x vs H Q => ∃ (l : Addr) (xs : List V) (i : Int) (y : V), x = .ref l ∧ vs = [.int i, y] ∧ H l = some (.lst xs) ∧ xs.length < sizeLine ∧ 0 ≤ i ∧ i < 2 ^ 63 ∧ Q .non (upd H l (.lst (xs.take i.toNat ++ [y] ++ xs.drop i.toNat)))
theorem mt_insV {X : Cx} : MtR X "list.insert" rInsV := mt_insert
theorem sv_ins {a : Addr} {ds : List D} {ti : TE} {j : Nat} (hc : (a, .lst ds) ∈ cs) (ho : Ev K ta ρ cs (.any (.ref a))) (hi : Ev K ti ρ cs (.int (j : Int))) (hj : j ≤ 100000) (h : Ev K te ρ cs d) (hz : ds.length < 100000) (k : P.nx ρ (setC a (.lst (ds.take j ++ [d] ++ ds.drop j)) cs)) :
    Sv K W bs (tDrop (tBM K "list" rInsV ta (tCons ti (tCons te tNil)))) ρ cs P := fun G0 H0 G H σ E r e o => ho G H σ r.wl e _ fun v G2 H2 n rv => by
  cases rv
  have r2 := r.step n
  obtain ⟨_, vs, hv, _⟩ := r2.wl.cell _ hc
  refine ⟨Or.inl ⟨rfl, vs, .inl (.inl hv)⟩, hi G2 H2 σ r2.wl (e.mono n.g) _ fun yi G3 H3 n3 ri => h G3 H3 σ (r2.step n3).wl ((e.mono n.g).mono n3.g) _ fun y G4 H4 n4 ry => ?_⟩
  cases ri
  have r4 := (r2.step n3).step n4
  obtain ⟨_, us, hu, ru⟩ := r4.wl.cell _ hc
  refine ⟨a, us, (j : Int), y, rfl, rfl, hu, by rw [ru.length]; exact Evl.sz_lt hz, by omega, by omega, ?_⟩
  exact o.nx G4 _ σ ρ _ (r4.write (d' := .lst (ds.take j ++ [d] ++ ds.drop j)) hc ⟨us.take j ++ [y] ++ us.drop j, upd_same, ((ru.take j).append (.one ry)).append (ru.drop j)⟩) (((e.mono n.g).mono n3.g).mono n4.g) k
end
end Lv

namespace Lv
open PySem L2
open Evl (Ex)
/-! ### a new list of new lists, all of which may change -/
section
variable {K : PySem.W.Frag} {G G0 G1 G2 H H0 H1 H2 H3 G3 : Hp} {ρ ρ1 : Ro} {cs : Cs} {ta tb te tx td ty tv : TE} {d d' e x y z : D} {W : WX} {bs : List Addr} {P : Po} {t u v : TS}
/-- the cells cl are new since H -/
def NewC (K : PySem.W.Frag) (H G2 H2 : Hp) (cl : Cs) : Prop := ∀ c ∈ cl, H c.1 = none ∧ G2 c.1 = none ∧ Cell K G2 H2 c.1 c.2
theorem NewC.step {cl : Cs} (h : NewC K H G2 H2 cl) (n : Nx G2 H2 G3 H3) : NewC K H G3 H3 cl := fun c hc => by
  obtain ⟨h1, h2, h3⟩ := h c hc
  refine ⟨h1, ?_, h3.mono n.g n.h⟩
  obtain ⟨o, ho⟩ := h3.some
  exact n.keepN ho h2
def EvNN (K : PySem.W.Frag) (te : TE) (ρ : Ro) (cs : Cs) (dss : List D) : Prop := ∀ G H σ, Wl K G H cs → Env K G σ ρ → ∀ Q : VK, (∀ p cl G2 H2, Nx G H G2 H2 → NewC K H G2 H2 cl → (p :: cl.map (·.1)).Nodup → H p = none → G2 p = none → H2 p = some (.lst (cl.map fun c => V.ref c.1)) → cl.map (·.2) = dss → Q (.ref p) H2) → te σ H Q
def LcN (K : PySem.W.Frag) (G1 H1 : Hp) (Dl : Addr) (dss : List D) (Hc : Hp) : Prop := ∃ Gc cl, Nx G1 H1 Gc Hc ∧ Gc Dl = none ∧ Hc Dl = some (.lst (cl.map fun c => V.ref c.1)) ∧ NewC K H1 Gc Hc cl ∧ (Dl :: cl.map (·.1)).Nodup ∧ cl.map (·.2) = dss
theorem en_nest {α : Type} {xs : List α} {enc : α → D} {wi : TI} {g : TG} {vs js : List Nat} {src : Cs} {v : α → List D} {ρ' : α → Ro} (hi : EvI K wi ρ cs src (xs.map enc)) (hg : ∀ a ∈ xs, EvG K g (enc a) (wipeD ρ vs) (ρ' a) js) (hj : ∀ j ∈ js, j ∈ vs)
    (he : ∀ a ∈ xs, EvN K te (ρ' a) cs (v a)) (hl : xs.length ≤ 100000) : EvNN K (tLc wi g tYes te vs) ρ cs (xs.map fun a => .lst (v a)) := fun G H σ w e Q q =>
  hi G H σ w e _ fun J G1 H1 n1 hsrc its Dl hDl => by
    have w1 := w.step n1
    have e1 : Env K G1 (wipe σ vs) (wipeD ρ vs) := (e.mono n1.g).wipe vs
    refine ⟨fun i m Hc => m = xs.length - i ∧ i ≤ xs.length ∧ LcN K G1 H1 Dl ((xs.take i).map fun a => .lst (v a)) Hc, ⟨xs.length, rfl, Nat.zero_le _, G1, [], Nx.newc w1.sub hDl, Evl.fresh_back w1.sub hDl, upd_same, (fun c hc => by cases hc), by simp, rfl⟩, fun i m Hc hW => ?_⟩
    obtain ⟨rfl, hle, Gc, cl, n, gD, hD, nc, nd, hds⟩ := hW
    have wc := w1.step n
    by_cases hlt : i < xs.length
    · have hmem : xs[i] ∈ xs := List.getElem_mem hlt
      have hat : (xs.map enc)[i]? = some (enc xs[i]) := by rw [List.getElem?_map, List.getElem?_eq_getElem hlt]; rfl
      have tk : xs.take (i + 1) = xs.take i ++ [xs[i]] := by rw [List.take_add_one, List.getElem?_eq_getElem hlt]; rfl
      have hlen : cl.length < 100000 := by
        have := congrArg List.length hds
        rw [List.length_map, List.length_map, List.length_take] at this
        omega
      obtain ⟨go, yl⟩ := its.go i _ Gc Hc cs hat n.g wc hsrc
      refine .inr ⟨go, fun Hn => LcN K G1 H1 Dl ((xs.take (i + 1)).map fun a => .lst (v a)) Hn, fun Hn h => ⟨xs.length - (i + 1), by omega, rfl, by omega, h⟩, fun x H' hy => ?_⟩
      obtain ⟨G4, n4, rx⟩ := yl x H' hy
      refine hg _ hmem G4 H' (wipe σ vs) x n4.s ((e1.mono n.g).mono n4.g) rx _ fun σ2 e2 s2 => ⟨wipe_eq s2 hj, ?_⟩
      have w4 := wc.step n4
      refine et_yes G4 H' σ2 w4 e2 _ fun G5 H5 n5 => ?_
      have gD5 : G5 Dl = none := (n4.trans n5).keepN hD gD
      have hD5 : H5 Dl = some (.lst (cl.map fun c => V.ref c.1)) := (n4.trans n5).h _ _ hD
      have nc5 := nc.step (n4.trans n5)
      rw [if_pos rfl]
      refine he _ hmem G5 H5 σ2 (w4.step n5) (e2.mono n5.g) _ fun p us G6 H6 n6 hp gp h6 r6 => ?_
      have gD6 : G6 Dl = none := n6.keepN hD5 gD5
      have hpD : p ≠ Dl := fun z => by rw [z, hD5] at hp; cases hp
      have hp1 : H1 p = none := by
        cases hh : H1 p with
        | none => rfl
        | some o =>
          have := ((n.trans n4).trans n5).h p o hh
          rw [hp] at this
          cases this
      have nc6 := nc5.step n6
      have hpn : ∀ c ∈ cl, c.1 ≠ p := fun c hc z => by
        obtain ⟨o, ho⟩ := (nc5 c hc).2.2.some
        rw [z, hp] at ho
        cases ho
      have hDn : ∀ c ∈ cl, c.1 ≠ Dl := fun c hc z => by
        have := (List.nodup_cons.mp nd).1
        exact this (List.mem_map.mpr ⟨c, hc, z⟩)
      refine ⟨_, n6.h _ _ hD5, by rw [List.length_map]; exact Evl.sz_lt hlen, G6, cl ++ [(p, .lst (v xs[i]))], (((n.trans n4).trans n5).trans n6).mutate hDl gD6, gD6, ?_, ?_, ?_, ?_⟩
      · rw [upd_same, List.map_append]
        rfl
      · intro c hc
        rcases List.mem_append.mp hc with hc | hc
        · obtain ⟨a1, a2, a3⟩ := nc6 c hc
          exact ⟨a1, a2, a3.upd_ne (hDn c hc)⟩
        · rw [List.mem_singleton] at hc
          subst hc
          refine ⟨hp1, gp, us, ?_, r6⟩
          rw [L2.upd_ne hpD]
          exact h6
      · rw [List.nodup_cons, List.map_append]
        obtain ⟨a1, a2⟩ := List.nodup_cons.mp nd
        refine ⟨fun z => ?_, ?_⟩
        · rcases List.mem_append.mp z with z | z
          · exact a1 z
          · have z : Dl = p := by simpa using z
            exact hpD z.symm
        · rw [List.nodup_append]
          refine ⟨a2, by simp, fun a ha b hb z => ?_⟩
          obtain ⟨c, hc, rfl⟩ := List.mem_map.mp ha
          have hb : b = p := by simpa using hb
          exact hpn c hc (z.trans hb)
      · rw [List.map_append, hds, tk, List.map_append]
        rfl
    · refine .inl ⟨its.stop i Gc Hc cs (by rw [List.length_map]; omega) n.g wc hsrc, ?_⟩
      have nc0 : NewC K H Gc Hc cl := fun c hc => ⟨Evl.fresh_back n1.h (nc c hc).1, (nc c hc).2.1, (nc c hc).2.2⟩
      refine q Dl cl Gc Hc (n1.trans n) nc0 nd (Evl.fresh_back n1.h hDl) gD hD ?_
      rw [hds, List.take_of_length_le (by omega)]
theorem Rl.newCells : ∀ {cl : Cs} (r : Rl K G0 H0 bs G H cs) (h : ∀ c ∈ cl, H0 c.1 = none ∧ G c.1 = none ∧ Cell K G H c.1 c.2 ∧ ∀ e ∈ cs, e.1 ≠ c.1) (nd : (cl.map (·.1)).Nodup), Rl K G0 H0 bs G H (cl ++ cs)
  | [], r, _, _ => r
  | c :: cl, r, h, nd => by
    rw [List.map_cons, List.nodup_cons] at nd
    have r2 := Rl.newCells (cl := cl) r (fun e he => h e (List.mem_cons_of_mem _ he)) nd.2
    obtain ⟨h1, h2, h3, h4⟩ := h c List.mem_cons_self
    refine r2.newCellD h1 h2 h3 fun e he => ?_
    rcases List.mem_append.mp he with he | he
    · exact fun z => nd.1 (List.mem_map.mpr ⟨e, he, z⟩)
    · exact h4 e he
/-- what is known of the new cells -/
structure Fre (bs : List Addr) (cs : Cs) (p : Addr) (cl : Cs) : Prop where
  nd : (p :: cl.map (·.1)).Nodup
  pb : p ∉ bs
  pc : ∀ c ∈ cs, c.1 ≠ p
  cb : ∀ c ∈ cl, c.1 ∉ bs
  cc : ∀ c ∈ cl, ∀ e ∈ cs, e.1 ≠ c.1
theorem sv_setNN {i : Nat} {dss : List D} (h : EvNN K te ρ cs dss) (k : ∀ p cl, cl.map (·.2) = dss → Fre bs cs p cl → P.nx (ρ.set i (some (.any (.ref p)))) ((p, .lst (cl.map fun c => .any (.ref c.1))) :: (cl ++ cs))) : Sv K W bs (tAsg te (gName i)) ρ cs P := fun G0 H0 G H σ E r e o =>
  h G H σ r.wl e _ fun p cl G2 H2 n nc nd hp gp h2 hds => by
    obtain ⟨a1, a2, a3⟩ := r.none0 hp
    have r2 := r.step n
    have r3 := Rl.newCells (cl := cl) r2 (fun c hc => ⟨(r.none0 (nc c hc).1).1, (nc c hc).2.1, (nc c hc).2.2, (r.none0 (nc c hc).1).2.2⟩) (List.nodup_cons.mp nd).2
    have rr : RepL K G2 (cl.map fun c => V.ref c.1) (cl.map fun c => D.any (.ref c.1)) := by
      clear nc nd h2 hds r3
      induction cl with
      | nil => exact .nil
      | cons c cl ih => exact .cons (.any _) ih
    have r4 := r3.newCellD (d := .lst (cl.map fun c => .any (.ref c.1))) a1 gp ⟨_, h2, rr⟩ fun c hc => by
      rcases List.mem_append.mp hc with hc | hc
      · exact fun z => (List.nodup_cons.mp nd).1 (List.mem_map.mpr ⟨c, hc, z⟩)
      · exact a3 c hc
    exact o.nx G2 H2 _ _ _ r4 ((e.mono n.g).set i (.any _)) (k p cl hds ⟨nd, a2, a3, fun c hc => (r.none0 (nc c hc).1).2.1, fun c hc => (r.none0 (nc c hc).1).2.2⟩)
theorem q_setNN {i : Nat} {dss : List D} (h : EvNN K te ρ cs dss) (k : ∀ p cl, cl.map (·.2) = dss → Fre bs cs p cl → Sv K W bs u (ρ.set i (some (.any (.ref p)))) ((p, .lst (cl.map fun c => .any (.ref c.1))) :: (cl ++ cs)) P) : Sv K W bs (tSeq (tAsg te (gName i)) u) ρ cs P := sv_seq (sv_setNN h k)
/-! ### a list of list cells, read as a whole -/
/-- te gives what is d as long as no cell changes -/
def EvV (K : PySem.W.Frag) (te : TE) (ρ : Ro) (cs : Cs) (d : D) : Prop := ∀ G H σ, Wl K G H cs → Env K G σ ρ → ∀ Q : VK, (∀ v G2 H2, Nx G H G2 H2 → Rep K (vw G2 H2 cs) v d → Q v H2) → te σ H Q
def EvAV (K : PySem.W.Frag) (ta : TA) (ρ : Ro) (cs : Cs) (ds : List D) : Prop := ∀ G H σ, Wl K G H cs → Env K G σ ρ → ∀ Q : List V → Hp → Prop, (∀ vs G2 H2, Nx G H G2 H2 → RepL K (vw G2 H2 cs) vs ds → Q vs H2) → ta σ H Q
theorem vw_step (w : Wl K G H cs) (n : Nx G H G2 H2) : Ex (vw G H cs) (vw G2 H2 cs) := fun b o hb => by
  by_cases h : ∃ c ∈ cs, c.1 = b
  · rw [vw_in h] at hb ⊢
    exact n.h b o hb
  · rw [vw_out h] at hb ⊢
    exact n.g b o hb
theorem Ev.vv (h : Ev K te ρ cs d) : EvV K te ρ cs d := fun G H σ w e Q q => h G H σ w e _ fun v G2 H2 n r => q v G2 H2 n (r.mono (vw_ex (w.step n)))
theorem EvR.vv (h : EvR K te ρ cs d) (hl : lstC cs) : EvV K te ρ cs d := fun G H σ w e Q q => h G H σ w e _ fun v G2 H2 n r => q v G2 H2 n (vw_rep (w.step n) hl r)
theorem eav_nil : EvAV K tNil ρ cs [] := fun G H σ w e Q q => q [] G H (Nx.refl w.sub) .nil
theorem eav_cons {t : TA} {ds : List D} (h1 : EvV K te ρ cs d) (h2 : EvAV K t ρ cs ds) : EvAV K (tCons te t) ρ cs (d :: ds) := fun G H σ w e Q q =>
  h1 G H σ w e _ fun v G2 H2 n r => h2 G2 H2 σ (w.step n) (e.mono n.g) _ fun vs G3 H3 n3 rs => q _ G3 H3 (n.trans n3) (.cons (r.mono (vw_step (w.step n) n3)) rs)
theorem vw_refs {cl : Cs} {dss : List D} (w : Wl K G H cs) (hl : ∀ c ∈ cl, c ∈ cs) (hc : lstC cl) (hd : cl.map (·.2) = dss) : RepL K (vw G H cs) (cl.map fun c => V.ref c.1) dss := by
  subst hd
  induction cl with
  | nil => exact .nil
  | cons c cl ih =>
    refine .cons ?_ (ih (fun e he => hl e (List.mem_cons_of_mem _ he)) (fun e he => hc e (List.mem_cons_of_mem _ he)))
    obtain ⟨ds, e⟩ := hc c List.mem_cons_self
    have hcc := hl c List.mem_cons_self
    obtain ⟨_, k⟩ := w.cell c hcc
    rw [e] at k
    obtain ⟨vs, e2, r⟩ := k
    show Rep K (vw G H cs) (.ref c.1) c.2
    rw [e]
    refine .lst ?_ (r.mono (vw_ex w))
    rw [vw_in ⟨c, hcc, rfl⟩]
    exact e2
theorem repL_refs : ∀ {cl : Cs} {vs : List V}, RepL K G vs (cl.map fun c => D.any (.ref c.1)) → vs = cl.map fun c => V.ref c.1
  | [], _, r => by cases r; rfl
  | c :: cl, _, r => by
    cases r with
    | cons a b =>
      cases a
      rw [repL_refs b]
      rfl
theorem vv_nest {p : Addr} {cl : Cs} {dss : List D} (h : Ev K te ρ cs (.any (.ref p))) (hp : (p, .lst (cl.map fun c => .any (.ref c.1))) ∈ cs) (hl : ∀ c ∈ cl, c ∈ cs) (hc : lstC cl) (hd : cl.map (·.2) = dss) : EvV K te ρ cs (.lst dss) := fun G H σ w e Q q => h G H σ w e _ fun v G2 H2 n r => by
  cases r
  have w2 := w.step n
  obtain ⟨_, vs, e2, r2⟩ := w2.cell _ hp
  have ev : vs = cl.map fun c => V.ref c.1 := repL_refs r2
  refine q _ G2 H2 n (.lst ?_ (vw_refs w2 hl hc hd))
  rw [vw_in ⟨_, hp, rfl⟩, ← ev]
  exact e2
theorem ee_callW {sp : Sp} {ta : TA} {ds : List D} {o : Out} (h : EvAV K ta ρ cs ds) (hs : SpX K sp ds o) (hl : lstC cs) (hn : nlO o = true) : EvE K W (tCallS sp (WE W) ta) ρ cs o := fun G H σ w e Q q =>
  h G H σ w e _ fun vs G2 H2 n rs => hs _ H2 vs (vw_sub (w.step n)) rs Q _ (gets_unv (w.step n) hl hn (gets_step n q))
theorem ev_callW {sp : Sp} {ta : TA} {ds : List D} (h : EvAV K ta ρ cs ds) (hs : SpX K sp ds (.ret z)) (hl : lstC cs) (hn : nl z = true) : Ev K (tCallS sp (WE W) ta) ρ cs z := ee_callW h hs hl hn
theorem ev_makeW {n : Nat} {A : List D → Out → Prop} {C : Addr} {fs : List (Str × D)} {ta : TA} {ds : List D} (h : EvAV K ta ρ cs ds) (hA : A ds (.ret (.obj C fs))) (hn : ds.length = n) (hl : lstC cs) (hz : nlF fs = true) : Ev K (tMakeS C (spI K C n A) (WE W) ta) ρ cs (.obj C fs) := fun G H σ w e Q q =>
  h G H σ w e _ fun vs G2 H2 nx rs x dx hx hdx hne => make_ok (o := .ret (.obj C fs)) (sp := fun _ _ _ _ => True) (vw_sub (w.step nx)) rs hn hA rfl (gets_unv (w.step nx) hl (by show nl (.obj C fs) = true; rw [nl]; exact hz) (gets_step nx q)) x dx hx hdx hne
theorem ev_opV {rr : V → V → Hp → VK → Prop} (ha : EvV K ta ρ cs x) (hb : EvV K tb ρ cs y) (hr : OpD K rr [] x y z) (hl : lstC cs) (hn : nl z = true) : Ev K (tOp rr ta tb) ρ cs z := fun G H σ w e Q q =>
  ha G H σ w e _ fun vx G2 H2 n rx => hb G2 H2 σ (w.step n) (e.mono n.g) _ fun vy G3 H3 n3 ry => by
    have w3 := (w.step n).step n3
    have wv : Wl K (vw G3 H3 cs) H3 [] := ⟨vw_sub w3, (fun c hc => by cases hc), by simp⟩
    exact hr _ H3 vx vy wv (.inl (rx.mono (vw_step (w.step n) n3))) (.inl ry) Q (gets_unv (E := E0) (o := .ret z) w3 hl hn (gets_step (E := E0) (n.trans n3) (o := .ret z) q))
/-- a cell behind an expression -/
theorem er_thru {b : Addr} (h : Ev K te ρ cs (.any (.ref b))) (hc : (b, d) ∈ cs) : EvR K te ρ cs d := fun G H σ w e Q q => h G H σ w e _ fun v G2 H2 n r => by
  cases r
  exact q _ G2 H2 n (.inr ⟨b, rfl, hc⟩)
/-- a new list is appended that may change -/
theorem sv_appC {a : Addr} {ds es : List D} (hc : (a, .lst ds) ∈ cs) (ho : Ev K ta ρ cs (.any (.ref a))) (h : EvN K te ρ cs es) (hz : ds.length < 100000) (k : ∀ b, b ∉ bs → (∀ c ∈ cs, c.1 ≠ b) → P.nx ρ ((b, .lst es) :: setC a (.lst (ds ++ [.any (.ref b)])) cs)) :
    Sv K W bs (tDrop (tBM K "list" rAppend ta (tCons te tNil))) ρ cs P := fun G0 H0 G H σ E r e o => ho G H σ r.wl e _ fun v G2 H2 n rv => by
  cases rv
  have r2 := r.step n
  obtain ⟨_, vs, hv, _⟩ := r2.wl.cell _ hc
  refine ⟨Or.inl ⟨rfl, vs, .inl (.inl hv)⟩, h G2 H2 σ r2.wl (e.mono n.g) _ fun b us G3 H3 n3 hb gb h3 r3 => ?_⟩
  obtain ⟨a1, a2, a3⟩ := r2.none0 hb
  have r4 := (r2.step n3).newCellD (d := .lst es) a1 gb ⟨us, h3, r3⟩ a3
  obtain ⟨_, ws, hw, rw_⟩ := r4.wl.cell _ (List.mem_cons_of_mem _ hc)
  refine ⟨a, ws, .ref b, rfl, rfl, hw, by rw [rw_.length]; exact Evl.sz_lt hz, ?_⟩
  have r5 := r4.write (d' := .lst (ds ++ [.any (.ref b)])) (List.mem_cons_of_mem _ hc) ⟨ws ++ [.ref b], upd_same, rw_.append (.one (.any _))⟩
  have hab : b ≠ a := fun z => a3 _ hc z.symm
  have e5 : setC a (.lst (ds ++ [.any (.ref b)])) ((b, .lst es) :: cs) = (b, .lst es) :: setC a (.lst (ds ++ [.any (.ref b)])) cs := by
    rw [setC]
    rw [if_neg hab]
  rw [e5] at r5
  exact o.nx G3 _ σ ρ _ r5 ((e.mono n.g).mono n3.g) (k b a2 a3)
end
end Lv

namespace Pf
open PySem L2 Lv
local macro_rules | `(tactic| walk_at "mem") => `(tactic| first | exact List.Mem.head _ | exact List.Mem.tail _ (List.Mem.head _) | exact List.Mem.tail _ (List.Mem.tail _ (List.Mem.head _)) | exact List.Mem.tail _ (List.Mem.tail _ (List.Mem.tail _ (List.Mem.head _))))
local macro_rules | `(tactic| walk_at "opd") => `(tactic| first
  | with_reducible exact opd_add | with_reducible exact opd_sub | with_reducible exact opd_lt | with_reducible exact opd_le | with_reducible exact opd_gt | with_reducible exact opd_ge | with_reducible exact opd_eqI | with_reducible exact opd_neI | with_reducible exact opd_eqS | with_reducible exact opd_neS | with_reducible exact opd_eqB | with_reducible exact opd_neB
  | ((with_reducible refine opd_mod ?_); (first | decide | omega)) | ((with_reducible refine opd_div ?_); (first | decide | omega)) | ((with_reducible refine opd_pow ?_); exact ⟨by decide, by decide, by decide⟩)
  | ((with_reducible refine opd_mul ?_); (first | exact Or.inl ⟨by omega, by omega⟩ | exact Or.inr ⟨by omega, by omega⟩)) | with_reducible apply opd_mul | with_reducible apply opd_addT | with_reducible apply opd_addS
  | with_reducible apply opd_ixScr | with_reducible apply opd_ixL | with_reducible apply opd_ixT | with_reducible apply opd_ixS
  | with_reducible exact opd_inS | with_reducible exact opd_ninS | with_reducible apply opd_inSq (n := 9) (by decide) | with_reducible apply opd_inL (n := 9) (by decide) | with_reducible apply opd_inT (n := 9) (by decide) | with_reducible apply opd_ninL (n := 9) (by decide) | with_reducible apply opd_ninT (n := 9) (by decide)
  | with_reducible exact opd_is rfl | with_reducible exact opd_isnot rfl
  | with_reducible apply opd_eqU (n := 9) (by decide) | with_reducible apply opd_neU (n := 9) (by decide))
local macro_rules | `(tactic| walk_at "ev1") => `(tactic| first
  | ((with_reducible apply er_cell); (exact rfl); (walk_at "mem"))
  | ((with_reducible apply ev_var); exact rfl)
  | with_reducible exact ev_cint | with_reducible exact ev_cstr | with_reducible exact ev_cbl | with_reducible exact ev_cnon | with_reducible exact ev_cty | with_reducible exact ev_cref | with_reducible exact ea_nil | with_reducible exact ear_nil | with_reducible exact eo_none | with_reducible exact et_yes
  | with_reducible apply ea_cons | with_reducible apply ear_cons | with_reducible apply eo_some | with_reducible apply ev_op | with_reducible apply ev_neg | with_reducible apply ev_chain | with_reducible apply ev_cb | with_reducible apply ev_tup | with_reducible apply ev_notV
  | with_reducible apply et_test | with_reducible apply et_B | with_reducible apply et_not | with_reducible apply et_truB
  | with_reducible exact cd_lenL | with_reducible exact cd_lenT | with_reducible exact cd_lenScr | with_reducible exact cd_lenSq | with_reducible exact cd_int | with_reducible exact cd_tupL | with_reducible exact cd_tupT | with_reducible apply cd_lenS | ((with_reducible apply cd_isi); (exact rfl); (decide +kernel))
  | ((with_reducible show OpD _ _ _ _ _ _); walk_at "opd")
  | with_reducible apply en_lst | with_reducible exact cn_listL | with_reducible exact cn_listT | with_reducible apply en_cb | with_reducible apply en_slL | with_reducible apply ev_slT
  | with_reducible apply Ev.er | with_reducible apply EvN.ev)
local macro_rules | `(tactic| walk_at "ev") => `(tactic| repeat' walk_at "ev1")

def topS (i : Nat) : Stmt := PySem.Challenge.pw_lookvoice_k01_relation_rows.main.body.getD i (.Pass ⟨0, 0, 0, 0⟩)
def mixD (c : Int) (k j : Nat) : Int :=
  let m := (c * (48271 + 69621 * (j : Int) + 7919 * (k : Int))) % 2147483647
  ((m * m + 40503 * m) % 1000003 / 11) % 12
def digS (c : Int) (k : Nat) : Nat → Int × List Int
  | 0 => (if c < 10 ^ 18 then 0 else c, [])
  | n + 1 => if 0 < (digS c k n).1 then ((digS c k n).1 / 12, (digS c k n).2 ++ [(digS c k n).1 % 12]) else ((digS c k n).1, (digS c k n).2 ++ [mixD c k n])
def digL (ns : List Int) (k n : Nat) : List Int := (digS (ns.getD k 0) k n).2
theorem digS_len (c : Int) (k : Nat) : ∀ n, (digS c k n).2.length = n
  | 0 => rfl
  | n + 1 => by
    rw [digS]
    split <;> simp [digS_len c k n]
theorem digL_len (ns : List Int) (k n : Nat) : (digL ns k n).length = n := digS_len _ _ _
theorem digS_in (c : Int) (k : Nat) : ∀ n, ∀ x ∈ (digS c k n).2, 0 ≤ x ∧ x < 12
  | 0, x, h => by simp [digS] at h
  | n + 1, x, h => by
    rw [digS] at h
    split at h
    · rcases List.mem_append.mp h with h | h
      · exact digS_in c k n x h
      · rw [List.mem_singleton] at h; subst h; omega
    · rcases List.mem_append.mp h with h | h
      · exact digS_in c k n x h
      · rw [List.mem_singleton] at h; subst h; unfold mixD; simp only; omega
theorem digL_in {ns : List Int} {k n : Nat} {x : Int} (h : x ∈ digL ns k n) : 0 ≤ x ∧ x < 12 := digS_in _ _ _ x h
/-- the i-th digit -/
def dig (ns : List Int) (k n i : Nat) : Nat := ((digL ns k n).getD i 0).toNat
theorem dig_lt {ns : List Int} {k n i : Nat} : dig ns k n i < 12 := by
  unfold dig
  by_cases h : i < (digL ns k n).length
  · have := digL_in (List.getElem_mem h)
    simp [h]
    omega
  · simp [h]
theorem dig_at {ns : List Int} {k n i : Nat} (h : i < n) : ((digL ns k n).map D.int)[i]? = some (.int (dig ns k n i : Nat)) := by
  have hl : i < (digL ns k n).length := by rw [digL_len]; exact h
  have := digL_in (List.getElem_mem hl)
  unfold dig
  rw [List.getElem?_map, List.getElem?_eq_getElem hl]
  simp [hl]
  omega

/-- a row as the relation keeps it -/
def norm (n : Nat) (r : List Int) : List Int := ((List.range n).map fun i : Nat => (i : Int)).filter fun q => decide (q ∈ r)
def badP (n : Nat) (p : Int) : Bool := !(decide (0 ≤ p) && decide (p < (n : Int)))
def firstBad (n : Nat) (rows : List (List Int)) : Option Int := rows.flatten.find? (badP n)
abbrev dI (r : List Int) : List D := r.map D.int
def relD (K : PySem.W.Frag) (n : Nat) (rows : List (List Int)) : D := .obj (ga K "Relation") [("size", .int n), ("rows", .tup (rows.map fun r => .tup (dI r)))]
def relOut (K : PySem.W.Frag) (rows : List (List Int)) : Out := match firstBad rows.length rows with
  | none => .ret (relD K rows.length (rows.map (norm rows.length)))
  | some p => .exc (.ref (ga K "BadPlace")) (some [("place", .int p)])
theorem okL_ints (n : Nat) (r : List Int) : okL n (r.map D.int) = true := by
  rw [okL_map, List.all_eq_true]
  intro x _
  exact ok_int
theorem find_prefix {α : Type} {p : α → Bool} {xs ys : List α} {x : α} (h : ∀ y ∈ xs, p y = false) (hx : p x = true) : (xs ++ x :: ys).find? p = some x := by
  rw [List.find?_append, List.find?_eq_none.mpr (by intro y hy; simp [h y hy])]
  simp [hx]
/-- rows of a relation, as the law and the program write them -/
abbrev rT (R : List (List Int)) : D := .tup (R.map fun r => .tup (dI r))
abbrev rL (R : List (List Int)) : D := .lst (R.map fun r => .lst (dI r))
theorem at_map {α β : Type} {f : α → β} {xs : List α} {i : Nat} {x : α} (h : xs[i]? = some x) : (xs.map f)[i]? = some (f x) := by rw [List.getElem?_map, h]; rfl
def rowAt (n : Nat) (m : Nat → Nat → Bool) (p : Nat) : List Int := ((List.range n).filter (m p)).map fun q : Nat => (q : Int)
/-- the rows of the relation of a Bool matrix -/
def rowsOf (n : Nat) (m : Nat → Nat → Bool) : List (List Int) := (List.range n).map (rowAt n m)
theorem rowsOf_len {n : Nat} {m : Nat → Nat → Bool} : (rowsOf n m).length = n := by unfold rowsOf; simp
theorem rowAt_len {n : Nat} {m : Nat → Nat → Bool} {p : Nat} : (rowAt n m p).length ≤ n := by
  unfold rowAt
  rw [List.length_map]
  have := List.length_filter_le (m p) (List.range n)
  rw [List.length_range] at this
  exact this
theorem rowsOf_at {n : Nat} {m : Nat → Nat → Bool} {p : Nat} (h : p < n) : (rowsOf n m)[p]? = some (rowAt n m p) := by
  unfold rowsOf
  rw [List.getElem?_map, List.getElem?_range h]
  rfl
theorem rowsOf_inv {n : Nat} {m : Nat → Nat → Bool} {p : Nat} {r : List Int} (h : (rowsOf n m)[p]? = some r) : p < n ∧ r = rowAt n m p := by
  have hp : p < n := by
    have := (List.getElem?_eq_some_iff.mp h).1
    rwa [rowsOf_len] at this
  rw [rowsOf_at hp] at h
  exact ⟨hp, (Option.some.inj h).symm⟩
theorem rowsOf_mem {n : Nat} {m : Nat → Nat → Bool} {r : List Int} (h : r ∈ rowsOf n m) : ∃ p, p < n ∧ r = rowAt n m p := by
  unfold rowsOf at h
  obtain ⟨p, hp, rfl⟩ := List.mem_map.mp h
  exact ⟨p, List.mem_range.mp hp, rfl⟩
theorem mem_rowAt {n : Nat} {m : Nat → Nat → Bool} {p : Nat} {x : Int} : x ∈ rowAt n m p ↔ ∃ q : Nat, q < n ∧ m p q = true ∧ x = (q : Int) := by
  unfold rowAt
  rw [List.mem_map]
  constructor
  · rintro ⟨q, hq, rfl⟩
    obtain ⟨h1, h2⟩ := List.mem_filter.mp hq
    exact ⟨q, List.mem_range.mp h1, h2, rfl⟩
  · rintro ⟨q, h1, h2, rfl⟩
    exact ⟨q, List.mem_filter.mpr ⟨List.mem_range.mpr h1, h2⟩, rfl⟩
theorem mem_rowAtN {n : Nat} {m : Nat → Nat → Bool} {p q : Nat} (h : q < n) : (q : Int) ∈ rowAt n m p ↔ m p q = true := by
  rw [mem_rowAt]
  constructor
  · rintro ⟨r, h1, h2, h3⟩
    have : q = r := by omega
    rw [this]
    exact h2
  · intro h2
    exact ⟨q, h, h2, rfl⟩
theorem rowsOf_congr {n : Nat} {m m' : Nat → Nat → Bool} (h : ∀ p q, p < n → q < n → m p q = m' p q) : rowsOf n m = rowsOf n m' := by
  unfold rowsOf rowAt
  apply List.map_congr_left
  intro p hp
  congr 1
  apply List.filter_congr
  intro q hq
  exact h p q (List.mem_range.mp hp) (List.mem_range.mp hq)
/-- the matrix of a drawn relation -/
def bndR : List Nat := [6, 3, 9, 12, 1, 4, 6, 2, 6, 5, 0, 8]
def matR (ns : List Int) (k n p q : Nat) : Bool := decide (dig ns k 50 (1 + p * n + q) < bndR.getD (dig ns k 50 0) 0)
theorem norm_eq {n : Nat} {r : List Int} : norm n r = ((List.range n).filter fun q : Nat => decide ((q : Int) ∈ r)).map fun q : Nat => (q : Int) := by
  unfold norm
  rw [List.filter_map]
  rfl
theorem relOut_ok (K : PySem.W.Frag) {n : Nat} {rows : List (List Int)} {m : Nat → Nat → Bool} (hl : rows.length = n) (hr : ∀ r ∈ rows, ∀ x ∈ r, 0 ≤ x ∧ x < (n : Int)) (hm : ∀ p r, rows[p]? = some r → ∀ q, q < n → ((q : Int) ∈ r ↔ m p q = true)) : relOut K rows = .ret (relD K n (rowsOf n m)) := by
  unfold relOut firstBad
  have e : rows.flatten.find? (badP rows.length) = none := by
    rw [List.find?_eq_none]
    intro x hx
    obtain ⟨r, h1, h2⟩ := List.mem_flatten.mp hx
    obtain ⟨h3, h4⟩ := hr r h1 x h2
    unfold badP
    rw [hl]
    simp [h3, h4]
  rw [e, hl]
  show Out.ret (relD K n (rows.map (norm n))) = _
  congr 2
  unfold rowsOf
  apply List.ext_getElem?
  intro p
  rw [List.getElem?_map, List.getElem?_map]
  by_cases hp : p < n
  · have hp2 : p < rows.length := by omega
    rw [List.getElem?_eq_getElem hp2, List.getElem?_range hp]
    show some (norm n rows[p]) = some (rowAt n m p)
    rw [norm_eq]
    unfold rowAt
    congr 2
    apply List.filter_congr
    intro q hq
    have h := hm p rows[p] (List.getElem?_eq_getElem hp2) q (List.mem_range.mp hq)
    rw [Bool.eq_iff_iff, decide_eq_true_iff]
    exact h
  · rw [List.getElem?_eq_none (by omega), List.getElem?_eq_none (by simp; omega)]
    rfl
theorem relOut_self (K : PySem.W.Frag) {n : Nat} {m : Nat → Nat → Bool} : relOut K (rowsOf n m) = .ret (relD K n (rowsOf n m)) := by
  refine relOut_ok K rowsOf_len (fun r hr x hx => ?_) (fun p r h q hq => ?_)
  · obtain ⟨p, _, rfl⟩ := rowsOf_mem hr
    obtain ⟨q, h1, _, rfl⟩ := mem_rowAt.mp hx
    omega
  · obtain ⟨_, rfl⟩ := rowsOf_inv h
    exact mem_rowAtN hq
def mulM (n : Nat) (a b : Nat → Nat → Bool) (p r : Nat) : Bool := (List.range n).any fun q => a p q && b q r
/-- what the operators give of two relations -/
def opOut (K : PySem.W.Frag) (f : Nat → (Nat → Nat → Bool) → (Nat → Nat → Bool) → Nat → Nat → Bool) (ds : List D) (o : Out) : Prop := ∃ (n n2 : Nat) (a b : Nat → Nat → Bool), n ≤ 100 ∧ n2 ≤ 100 ∧ ds = [relD K n (rowsOf n a), relD K n2 (rowsOf n2 b)] ∧
  o = if n = n2 then .ret (relD K n (rowsOf n (f n a b))) else .exc (.ref (ga K "SizeMismatch")) none
theorem inD_true {α : Type} {f : α → Bool} {xs : List α} : inD (.bl true) (xs.map fun a => .bl (f a)) = xs.any f := by
  unfold inD
  rw [List.any_map]
  congr 1
  funext a
  show eqD (.bl (f a)) (.bl true) = f a
  rw [eqD_bl]
  cases f a <;> rfl
theorem okL_bls {α : Type} (n : Nat) {f : α → Bool} (xs : List α) : okL n (xs.map fun a => D.bl (f a)) = true := by
  rw [okL_map, List.all_eq_true]
  intro x _
  exact ok_bl
theorem emod8 (c : Int) : ∃ n : Nat, n ≤ 7 ∧ c % 8 = (n : Int) := ⟨(c % 8).toNat, by omega, by omega⟩
def orM (_ : Nat) (a b : Nat → Nat → Bool) (p q : Nat) : Bool := a p q || b p q
def andM (_ : Nat) (a b : Nat → Nat → Bool) (p q : Nat) : Bool := a p q && b p q
theorem zipRows {n : Nat} {a b : Nat → Nat → Bool} : (((rowsOf n a).map fun r => D.tup (dI r)).zip ((rowsOf n b).map fun r => D.tup (dI r))).map (fun p => D.tup [p.1, p.2]) = (List.range n).map fun p => D.tup [.tup (dI (rowAt n a p)), .tup (dI (rowAt n b p))] := by
  apply List.ext_getElem
  · simp [rowsOf_len]
  · intro i h1 h2
    simp [rowsOf, rowAt]
theorem norm_bound {n : Nat} {m : Nat → Nat → Bool} {p : Nat} {x : Int} (h : x ∈ rowAt n m p) : 0 ≤ x ∧ x < (n : Int) := by
  obtain ⟨q, h1, _, rfl⟩ := mem_rowAt.mp h
  omega
theorem rangeMap_at {α : Type} {n p : Nat} {f : Nat → α} {r : α} (h : ((List.range n).map f)[p]? = some r) : p < n ∧ r = f p := by
  rw [List.getElem?_map] at h
  by_cases hp : p < n
  · rw [List.getElem?_range hp] at h
    cases h
    exact ⟨hp, rfl⟩
  · rw [List.getElem?_eq_none (by simp; omega)] at h
    cases h

def sizT : List Nat := [2, 3, 1, 0, 4, 5, 3, 9, 2, 4, 6, 3]
def rowK (ns : List Int) (n j : Nat) : List Int := (List.range (dig ns 0 59 (1 + j) % 5)).map fun i => ((dig ns 0 59 (10 + 5 * j + i) % n : Nat) : Int)
def rowsK (ns : List Int) (n : Nat) : List (List Int) := (List.range n).map (rowK ns n)
theorem rowK_len {ns : List Int} {n j : Nat} : (rowK ns n j).length ≤ 4 := by
  unfold rowK
  rw [List.length_map, List.length_range]
  have := Nat.mod_lt (dig ns 0 59 (1 + j)) (show 0 < 5 by decide)
  omega
theorem rowsK_len {ns : List Int} {n : Nat} : (rowsK ns n).length = n := by unfold rowsK; simp
theorem rowsK_in {ns : List Int} {n : Nat} {r : List Int} (h : r ∈ rowsK ns n) : r.length ≤ 4 ∧ ∀ x ∈ r, badP n x = false := by
  unfold rowsK at h
  obtain ⟨j, hj, rfl⟩ := List.mem_map.mp h
  refine ⟨rowK_len, fun x hx => ?_⟩
  have hn : 0 < n := by have := List.mem_range.mp hj; omega
  unfold rowK at hx
  obtain ⟨i, _, rfl⟩ := List.mem_map.mp hx
  have := Nat.mod_lt (dig ns 0 59 (10 + 5 * j + i)) hn
  unfold badP
  simp
  omega
theorem relOut_good (K : PySem.W.Frag) {n : Nat} {R : List (List Int)} (hl : R.length = n) (h : ∀ r ∈ R, ∀ x ∈ r, badP n x = false) : relOut K R = .ret (relD K n (R.map (norm n))) := by
  unfold relOut firstBad
  have e : R.flatten.find? (badP R.length) = none := by
    rw [List.find?_eq_none]
    intro x hx
    obtain ⟨r, h1, h2⟩ := List.mem_flatten.mp hx
    rw [hl, h r h1 x h2]
    simp
  rw [e, hl]
theorem norm_len {n : Nat} {r : List Int} : (norm n r).length ≤ n := by
  unfold norm
  have := List.length_filter_le (fun q => decide (q ∈ r)) ((List.range n).map fun i : Nat => (i : Int))
  simpa using this
theorem setC_at {a : Addr} {d x : D} : ∀ {cl : Cs} {i : Nat}, (cl.map (·.1)).Nodup → cl[i]? = some (a, x) → setC a d cl = cl.set i (a, d)
  | [], _, _, h => by simp at h
  | c :: cl, 0, _, h => by
    simp at h
    subst h
    rw [setC, if_pos rfl]
    rfl
  | c :: cl, i + 1, nd, h => by
    rw [List.map_cons, List.nodup_cons] at nd
    have h2 : cl[i]? = some (a, x) := by simpa using h
    have hne : ¬ c.1 = a := fun z => nd.1 (by rw [z]; exact List.mem_map.mpr ⟨(a, x), List.mem_of_getElem? h2, rfl⟩)
    rw [setC, if_neg hne, setC_at nd.2 h2]
    rfl
theorem set_fst {a : Addr} {d x : D} {cl : Cs} {i : Nat} (h : cl[i]? = some (a, x)) : (cl.set i (a, d)).map (·.1) = cl.map (·.1) := by
  rw [List.map_set]
  show (cl.map (·.1)).set i a = _
  apply List.ext_getElem?
  intro j
  rw [List.getElem?_set]
  by_cases hj : i = j
  · subst hj
    have hl : i < cl.length := (List.getElem?_eq_some_iff.mp h).1
    rw [if_pos rfl, List.getElem?_map, h]
    simp [hl]
  · rw [if_neg hj]
theorem any_fst {cl cl2 : Cs} (h : cl2.map (·.1) = cl.map (·.1)) : (cl2.map fun c => D.any (.ref c.1)) = cl.map fun c => D.any (.ref c.1) := by
  have e : ∀ c : Cs, (c.map fun c => D.any (.ref c.1)) = (c.map (·.1)).map fun a => D.any (.ref a) := fun c => by rw [List.map_map]; rfl
  rw [e, e, h]
/-- the spoilt rows' first bad place -/
theorem spoilt_bad {n j : Nat} {R : List (List Int)} {i : Nat} {r : List Int} {bad y : Int} (hl : R.length = n) (hR : ∀ r ∈ R, ∀ x ∈ r, badP n x = false) (hi : R[i]? = some r) (hb : badP n bad = true) (r2 : List Int) (h2 : (R.set i (r.take j ++ [bad] ++ r.drop j))[n - 1]? = some r2) :
    firstBad n ((R.set i (r.take j ++ [bad] ++ r.drop j)).set (n - 1) (r2 ++ [y])) = some bad := by
  have hin : i < R.length := (List.getElem?_eq_some_iff.mp hi).1
  have good : ∀ x ∈ (R.take i).flatten, badP n x = false := fun x hx => by
    obtain ⟨s, h3, h4⟩ := List.mem_flatten.mp hx
    exact hR s (List.mem_of_mem_take h3) x h4
  have hr : ∀ x ∈ r.take j, badP n x = false := fun x hx => hR r (List.mem_of_getElem? hi) x (List.mem_of_mem_take hx)
  obtain ⟨ys, tl, e⟩ : ∃ ys tl, (R.set i (r.take j ++ [bad] ++ r.drop j)).set (n - 1) (r2 ++ [y]) = R.take i ++ ((r.take j ++ bad :: ys) :: tl) := by
    have es : R.set i (r.take j ++ [bad] ++ r.drop j) = R.take i ++ (r.take j ++ [bad] ++ r.drop j) :: R.drop (i + 1) := by rw [List.set_eq_take_append_cons_drop, if_pos hin]
    rw [es] at h2 ⊢
    by_cases hlast : i = n - 1
    · have e1 : (R.take i).length = i := by rw [List.length_take]; omega
      rw [List.getElem?_append_right (by omega), e1, hlast, Nat.sub_self, List.getElem?_cons_zero] at h2
      cases h2
      refine ⟨r.drop j ++ [y], R.drop (i + 1), ?_⟩
      rw [List.set_append_right _ _ (by omega), e1, hlast, Nat.sub_self, List.set_cons_zero]
      simp
    · have e1 : (R.take i).length = i := by rw [List.length_take]; omega
      refine ⟨r.drop j, (R.drop (i + 1)).set (n - 1 - i - 1) (r2 ++ [y]), ?_⟩
      rw [List.set_append_right _ _ (by omega), e1]
      obtain ⟨k, hk⟩ : ∃ k, n - 1 - i = k + 1 := ⟨n - 1 - i - 1, by omega⟩
      rw [hk, List.set_cons_succ]
      simp
  unfold firstBad
  rw [e, List.flatten_append, List.flatten_cons, List.append_assoc, List.cons_append, ← List.append_assoc]
  refine find_prefix (fun x hx => ?_) hb
  rcases List.mem_append.mp hx with hx | hx
  · exact good x hx
  · exact hr x hx

abbrev s_BadPlace : Stmt := inClass (topS 3) 0
theorem S_BadPlace : FnScope ["self", "place"] ["self", "place"] (defScope s_BadPlace) := ⟨rfl, rfl, rfl, by decide +kernel, rfl, by decide +kernel, by decide +kernel⟩
theorem ok_BadPlace {P : Program} {w : World} {K : PySem.W.Frag} {mg : Str → Option Value} {base : Heap} {f : Addr} {fd : FuncData} (F : Fun K "__init__" "BadPlace.__init__" s_BadPlace f fd) : FnOk P w K mg base (L2N.CX P w) 1 f fd ["self", "place"] (spXI K "place") :=
  fn_okX F S_BadPlace rfl fun cdv A' outer s H E => pss_one (ps_ost (pv 0) (pv 1))
/-! ### Relation.__init__ -/
abbrev s_Relation____init__ : Stmt := inClass (topS 7) 0
abbrev N_Relation____init__ : List Str := ["self", "rows", "ordered", "row", "place"]
theorem S_Relation____init__ : FnScope N_Relation____init__ ["self", "rows"] (defScope s_Relation____init__) := ⟨rfl, rfl, rfl, by decide +kernel, rfl, by decide +kernel, by decide +kernel⟩
def A_Relation____init__ (K : PySem.W.Frag) (ds : List D) (o : Out) : Prop := ∃ (b c : Bool) (rows : List (List Int)), ds = [sq b (rows.map fun r => sq c (dI r))] ∧ rows.length ≤ 1000 ∧ o = relOut K rows

section
variable {P : Program} {w : World} {K : PySem.W.Frag} {mg : Str → Option Value} {base : Heap}
theorem ok_Relation____init__ {f : Addr} {fd : FuncData} (F : Fun K "__init__" "Relation.__init__" s_Relation____init__ f fd) (X_BadPlace : Xc P w K mg base "BadPlace" "place" (ga K "BadPlace")) (z_len : mg "len" = none) (z_range : mg "range" = none) (z_tuple : mg "tuple" = none)  (k_cls_Relation : Cls K (ga K "Relation")) (k_noat_Relation_size : NoAttr K (ga K "Relation") "size") (k_noat_Relation_rows : NoAttr K (ga K "Relation") "rows") : FnOk P w K mg base (L2N.CX P w) 3 f fd ["self", "rows"] (spI K (ga K "Relation") 1 (A_Relation____init__ K)) := by
  refine fn_okI (N := N_Relation____init__) F S_Relation____init__ rfl fun cdv A' outer s H E hr tk po => ⟨_, (pss_cons (ps_fld (pv 0) (pe_callB (cr_lenK K) (by rfl) z_len (by decide +kernel) (pa_cons (pv 1) pa_nil)) rfl)
 (pss_cons (ps_set (i := 2) S_Relation____init__.nd rfl (Or.inl rfl) (pe_lst pa_nil))
 (pss_cons (ps_for po rfl (pi_seqK K (pv 1)) (pg_name (i := 3) S_Relation____init__.nd rfl (Or.inr rfl))
  (pss_cons (ps_for po rfl (pi_seqK K (pv 3)) (pg_name (i := 4) S_Relation____init__.nd rfl (Or.inl rfl))
  (pss_one (ps_if (pt_not (pt_chain op_le op_lt pe_int (pv 4) (pe_fldK K (pv 0) rfl))) (pss_one (L2N.ps_raise rfl tk (pmk_oexF X_BadPlace hr (pa_cons (pv 4) pa_nil)))) pss_nil)))
 (pss_one (ps_expr (pe_bm PySem.F.plainAttrs_list PySem.F.slot_list_append PySem.F.type_list_append mt_append (pv 2) (pa_cons (pe_callTy (cr_tupleK K) (by rfl) z_tuple (by decide +kernel) (pa_cons (pe_lc (own := [("place", 4)]) (by rfl) S_Relation____init__.nd (pi_range1 (by rfl) z_range (pa_cons (pe_fldK K (pv 0) rfl) pa_nil)) (blkOk_by (own := [("place", 4)]) (N := N_Relation____init__) (sc := (defScope s_Relation____init__)) (by decide +kernel)) (fun _ _ _ _ _ => (pg_name (i := 4) S_Relation____init__.nd rfl (Or.inl rfl))) (fun _ _ _ _ _ => (pts_one (pt_cmpR (op_inK K (u65 hr)) (pv 4) (pv 3) (by rfl)))) (fun _ _ _ _ _ => (pv 4))) pa_nil)) pa_nil))))))
 (pss_one (ps_fld (pv 0) (pe_callTy (cr_tupleK K) (by rfl) z_tuple (by decide +kernel) (pa_cons (pv 2) pa_nil)) rfl))))), fun me ds o hn hA => ?_⟩
  try dsimp only [cxN, cxOf]
  obtain ⟨b, c, rows, rfl, hlen, rfl⟩ := hA
  refine sv_seq (sv_fld (a := me) (by walk_at "mem") (d := .int (rows.length : Int)) (Ev.of (by walk_at "ev") (by rw [List.length_map])) (by walk_at "ev") k_cls_Relation k_noat_Relation_size (by simp) ?_)
  rw [setC_0]
  refine q_setN (ds := []) (by walk_at "ev"; simp) fun a ha hca => ?_
  have hne : a ≠ me := fun z => ha (by simp [z])
  have hne2 : me ≠ a := fun z => hne z.symm
  obtain ⟨n, hnn⟩ : ∃ n, n = rows.length := ⟨_, rfl⟩
  rw [← hnn]
  refine q_forLZ (xs := rows) (enc := fun r => sq c (dI r)) (j := 3) (ei_sq (by walk_at "ev"))
    (fun i => [some (.any (.ref me)), some (sq b (rows.map fun r => sq c (dI r))), some (.any (.ref a)), none, none])
    (fun i => [(a, .lst ((rows.take i).map fun r => .tup (dI (norm n r)))), (me, .obj (ga K "Relation") [("size", .int n)])])
    (fun i => ∀ p ∈ (rows.take i).flatten, badP n p = false) ⟨rfl, rfl, rfl, trivial⟩ rfl (by simp) (fun i => no_src) (fun i r hr hZ => ?_) (fun hZ => ?_)
  · have hil : i < rows.length := (List.getElem?_eq_some_iff.mp hr).1
    have htk : rows.take (i + 1) = rows.take i ++ [r] := by rw [List.take_add_one, hr]; rfl
    have hsplit : rows.flatten = (rows.take i).flatten ++ (r ++ (rows.drop (i + 1)).flatten) := by
      rw [← List.flatten_cons, ← List.flatten_append]
      congr 1
      have e : rows.drop i = r :: rows.drop (i + 1) := by
        rw [List.drop_eq_getElem_cons hil]
        congr 1
        exact (List.getElem?_eq_some_iff.mp hr).2
      rw [← e, List.take_append_drop]
    refine q_search (xs := r) (enc := D.int) (j := 4) (ei_sq (by walk_at "ev")) (fun m => ∀ p ∈ r.take m, badP n p = false) (by simp) (no_src) ⟨rfl, rfl, rfl, rfl, trivial⟩ (fun m p hp hZm => ?_) (fun hZr => ?_)
    · have hml : m < r.length := (List.getElem?_eq_some_iff.mp hp).1
      refine sv_when (b := badP n p) ?_ (fun hb => ?_) (fun hb => ?_)
      · unfold badP
        refine et_not (et_test (ev_chain (a := decide (0 ≤ p)) (b := decide (p < (n : Int))) (x := .int 0) (y := .int p) (w' := .int n) (by walk_at "ev") (by walk_at "ev") opd_le (fun _ => ?_) (fun _ => opd_lt)))
        exact Ev.er (ev_fld (C := ga K "Relation") (fs := [("size", .int n)]) (by walk_at "ev") k_cls_Relation k_noat_Relation_size rfl)
      · refine sv_raiseF (f := "place") (d := .int p) X_BadPlace.oex X_BadPlace.nf (by walk_at "ev") ?_
        have e : firstBad rows.length rows = some p := by
          unfold firstBad
          rw [← hnn]
          have er : r = r.take m ++ p :: r.drop (m + 1) := by
            have e1 : r.drop m = p :: r.drop (m + 1) := by
              rw [List.drop_eq_getElem_cons hml]
              congr 1
              exact (List.getElem?_eq_some_iff.mp hp).2
            rw [← e1, List.take_append_drop]
          rw [hsplit, er, List.append_assoc, ← List.append_assoc, List.cons_append]
          refine find_prefix (fun y hy => ?_) hb
          rcases List.mem_append.mp hy with hy | hy
          · exact hZ y hy
          · exact hZm y hy
        show relOut K rows = _
        unfold relOut
        rw [e]
      · refine ⟨⟨rfl, rfl, rfl, rfl, trivial⟩, rfl, fun q hq => ?_⟩
        have e1 : r.take (m + 1) = r.take m ++ [p] := by rw [List.take_add_one, hp]; rfl
        rw [e1] at hq
        rcases List.mem_append.mp hq with hq | hq
        · exact hZm q hq
        · rw [List.mem_singleton] at hq; subst hq; exact hb
    · rw [List.take_length] at hZr
      have hlt : ((rows.take i).map fun r => D.tup (dI (norm n r))).length < 100000 := by
        rw [List.length_map, List.length_take]
        omega
      refine sv_app (by walk_at "mem") (by walk_at "ev") (d := .tup (dI (norm n r))) ?_ hlt ?_
      · refine ev_cb (ear_cons (EvN.er (ds := dI (norm n r)) ?_) ear_nil) cd_tupL
        refine EvN.of (en_lcR (f := fun q : Nat => inD (.int (q : Int)) (dI r)) (v := fun q : Nat => D.int (q : Int)) (n := n) ?h1 (by omega) (by simp) ?h2 ?h3) ?h4
        case h1 => exact ea_cons (ev_fld (C := ga K "Relation") (fs := [("size", .int n)]) (by walk_at "ev") k_cls_Relation k_noat_Relation_size rfl) ea_nil
        case h2 =>
          intro q hq
          exact et_test (ev_op (by walk_at "ev") (by walk_at "ev") (opd_inSq (n := 9) (by decide) ok_int (okL_ints 9 r)))
        case h3 =>
          intro q hq _
          walk_at "ev"
        unfold norm dI
        rw [List.filter_map, List.map_map]
        congr 1
        apply List.filter_congr
        intro q _
        exact (inD_dec apart_int)
      · rw [setC_0]
        refine ⟨⟨rfl, rfl, rfl, trivial⟩, ?_, ?_⟩
        · rw [htk, List.map_append]
          rfl
        · intro p hp
          rw [htk, List.flatten_append] at hp
          rcases List.mem_append.mp hp with hp | hp
          · exact hZ p hp
          · exact hZr p (by simpa using hp)
  · rw [List.take_length] at hZ
    have e : firstBad rows.length rows = none := by
      unfold firstBad
      rw [← hnn]
      rw [List.find?_eq_none]
      intro y hy
      simp [hZ y hy]
    show Sv _ _ _ _ _ _ (poI _ _ (relOut K rows))
    unfold relOut
    rw [e, ← hnn]
    refine sv_fld (a := me) (fs := [("size", .int n)]) (by walk_at "mem") (d := .tup ((rows.map (norm n)).map fun r => .tup (dI r))) ?_ (by walk_at "ev") k_cls_Relation k_noat_Relation_rows (by simp) ?_
    · refine Ev.of (ev_cb (ear_cons (by walk_at "ev") ear_nil) cd_tupL) ?_
      rw [hnn, List.take_length, List.map_map]
      rfl
    · rw [setC_1 hne]
      exact ⟨rfl, by walk_at "mem"⟩
end
/-! ### _law_cell -/
abbrev s__law_cell : Stmt := topS 9
abbrev N__law_cell : List Str := ["_law_script", "_law_k"]
theorem S__law_cell : FnScope N__law_cell ["_law_script", "_law_k"] (defScope s__law_cell) := ⟨rfl, rfl, rfl, by decide +kernel, rfl, by decide +kernel, by decide +kernel⟩
def A__law_cell (K : PySem.W.Frag) (ds : List D) (o : Out) : Prop := ∃ (ns : List Int) (k : Nat), ds = [.scr ns, .int k] ∧ o = .ret (.int (ns.getD k 0))

section
variable {P : Program} {w : World} {K : PySem.W.Frag} {mg : Str → Option Value} {base : Heap}
theorem ok__law_cell {f : Addr} {fd : FuncData} (F : Fun K "_law_cell" "_law_cell" s__law_cell f fd)  (z_len : mg "len" = none)   : FnOk P w K mg base (L2N.CX P w) 1 f fd ["_law_script", "_law_k"] (spO K 2 (A__law_cell K)) := by
  refine fn_okD (N := N__law_cell) F S__law_cell rfl fun cdv A' outer s H E hr tk po => ⟨_, (pss_cons (ps_if (pt_cmpR op_lt (pv 1) (pe_callB (cr_lenK K) (by rfl) z_len (by decide +kernel) (pa_cons (pv 0) pa_nil)) (nomark _)) (pss_one (ps_ret (pe_ix (ix_seqK K) (pv 0) (pv 1) (fun _ _ => rfl)))) pss_nil)
 (pss_one (ps_ret pe_int))), fun ds o hn hA => ?_⟩
  try dsimp only [cxN, cxOf]
  obtain ⟨ns, k, rfl, rfl⟩ := hA
  refine q_when (b := ?b) ?e1 ?e2 ?e3
  case e1 => walk_at "ev"
  · intro hb
    have hb := of_decide_eq_true hb
    refine sv_ret (d := .int (ns.getD k 0)) ?_ rfl
    walk_at "ev"
    refine Lv.atI_nat ?_
    have hk : k < ns.length := by omega
    simp [hk]
  · intro hb
    have hb := of_decide_eq_false hb
    have e : ns.getD k 0 = 0 := by simp [show ns.length ≤ k by omega]
    rw [e]
    exact sv_ret (by walk_at "ev") rfl
end
/-! ### _law_digits -/
abbrev s__law_digits : Stmt := topS 10
abbrev N__law_digits : List Str := ["_law_script", "_law_k", "_law_count", "_law_cell_here", "_law_rest", "_law_row", "_law_j", "_law_mixed"]
theorem S__law_digits : FnScope N__law_digits ["_law_script", "_law_k", "_law_count"] (defScope s__law_digits) := ⟨rfl, rfl, rfl, by decide +kernel, rfl, by decide +kernel, by decide +kernel⟩
def A__law_digits (K : PySem.W.Frag) (ds : List D) (o : Out) : Prop := ∃ (ns : List Int) (k n : Nat), ds = [.scr ns, .int k, .int n] ∧ k ≤ 1000 ∧ n ≤ 1000 ∧ o = .new ((digL ns k n).map D.int)

section
variable {P : Program} {w : World} {K : PySem.W.Frag} {mg : Str → Option Value} {base : Heap}
theorem ok__law_digits {f : Addr} {fd : FuncData} (F : Fun K "_law_digits" "_law_digits" s__law_digits f fd) (F__law_cell : Fx P w K mg base 1 "_law_cell" ["_law_script", "_law_k"] (spO K 2 (A__law_cell K))) (z_int : mg "int" = none) (z_range : mg "range" = none)   : FnOk P w K mg base (L2N.CX P w) 2 f fd ["_law_script", "_law_k", "_law_count"] (spO K 3 (A__law_digits K)) := by
  refine fn_okD (N := N__law_digits) F S__law_digits rfl fun cdv A' outer s H E hr tk po => ⟨_, (pss_cons (ps_set (i := 3) S__law_digits.nd rfl (Or.inl rfl) (pe_callFS tk F__law_cell hr (pa_cons (pv 0) (pa_cons (pv 1) pa_nil))))
 (pss_cons (ps_set (i := 4) S__law_digits.nd rfl (Or.inl rfl) (pv 3))
 (pss_cons (ps_if (pt_cmpR op_lt (pv 3) (pe_op op_pow pe_int pe_int) (nomark _)) (pss_one (ps_set (i := 4) S__law_digits.nd rfl (Or.inl rfl) pe_int)) pss_nil)
 (pss_cons (ps_set (i := 5) S__law_digits.nd rfl (Or.inl rfl) (pe_lst pa_nil))
 (pss_cons (ps_for po rfl (pi_range1 (by rfl) z_range (pa_cons (pv 2) pa_nil)) (pg_name (i := 6) S__law_digits.nd rfl (Or.inl rfl))
  (pss_one (ps_if (pt_cmpR op_gt (pv 4) pe_int (nomark _)) (pss_cons (ps_expr (pe_bm PySem.F.plainAttrs_list PySem.F.slot_list_append PySem.F.type_list_append mt_append (pv 5) (pa_cons (pe_op op_mod (pe_callTy cr_int (by rfl) z_int (by decide +kernel) (pa_cons (pv 4) pa_nil)) pe_int) pa_nil)))
 (pss_one (ps_set (i := 4) S__law_digits.nd rfl (Or.inl rfl) (pe_op op_fdiv (pv 4) pe_int)))) (pss_cons (ps_set (i := 7) S__law_digits.nd rfl (Or.inl rfl) (pe_op op_mod (pe_callTy cr_int (by rfl) z_int (by decide +kernel) (pa_cons (pe_op op_mul (pv 3) (pe_op (op_addK K) (pe_op (op_addK K) pe_int (pe_op op_mul pe_int (pv 6))) (pe_op op_mul pe_int (pv 1)))) pa_nil)) pe_int))
 (pss_cons (ps_set (i := 7) S__law_digits.nd rfl (Or.inl rfl) (pe_op op_mod (pe_callTy cr_int (by rfl) z_int (by decide +kernel) (pa_cons (pe_op (op_addK K) (pe_op op_mul (pv 7) (pv 7)) (pe_op op_mul pe_int (pv 7))) pa_nil)) pe_int))
 (pss_one (ps_expr (pe_bm PySem.F.plainAttrs_list PySem.F.slot_list_append PySem.F.type_list_append mt_append (pv 5) (pa_cons (pe_op op_mod (pe_callTy cr_int (by rfl) z_int (by decide +kernel) (pa_cons (pe_op op_fdiv (pv 7) pe_int) pa_nil)) pe_int) pa_nil)))))))))
 (pss_one (ps_ret (pv 5)))))))), fun ds o hn hA => ?_⟩
  try dsimp only [cxN, cxOf]
  obtain ⟨ns, k, n, rfl, hk, hn, rfl⟩ := hA
  unfold digL
  generalize hc : ns.getD k 0 = c
  refine q_set (d := .int c) ?_ ?_
  · refine ev_callS (ds := [.scr ns, .int k]) (by walk_at "ev") (spO_ret ⟨ns, k, rfl, by rw [hc]⟩ rfl)
  refine q_set (d := .int c) (by walk_at "ev") ?_
  refine q_ifset (b := decide (c < 10 ^ 18)) (d := .int (digS c k 0).1) (by refine EvT.of (b := decide (c < 10 ^ Int.toNat 18)) ?_ rfl; walk_at "ev") (fun hb => ?_) (fun hb => ?_) ?_
  · rw [digS, if_pos (of_decide_eq_true hb)]
    walk_at "ev"
  · rw [digS, if_neg (of_decide_eq_false hb)]
    rfl
  refine q_setN (ds := []) (by walk_at "ev"; simp) fun a ha hca => ?_
  refine q_forR (n := n) (by walk_at "ev") (by omega) (fun i => [some (.scr ns), some (.int k), some (.int n), some (.int c), some (.int (digS c k i).1), some (.any (.ref a)), none, none]) (fun i => [(a, .lst ((digS c k i).2.map D.int))]) ⟨rfl, rfl, rfl, rfl, rfl, rfl, trivial⟩ rfl (fun i hi => ?_) ?_
  · have hlen : ((digS c k i).2.map D.int).length < 100000 := by rw [List.length_map, digS_len]; omega
    refine sv_if (b := decide (0 < (digS c k i).1)) (by walk_at "ev") (fun hb => ?_) (fun hb => ?_)
    · have hb := of_decide_eq_true hb
      refine q_app (by walk_at "mem") (by walk_at "ev") (d := .int ((digS c k i).1 % 12)) (by walk_at "ev") hlen setC_0 ?_
      refine sv_set (d := .int ((digS c k i).1 / 12)) (by walk_at "ev") ?_
      rw [digS, if_pos hb]
      refine ⟨⟨rfl, rfl, rfl, rfl, rfl, rfl, trivial⟩, ?_⟩
      simp
    · have hb := of_decide_eq_false hb
      refine q_set (d := .int ((c * (48271 + 69621 * (i : Int) + 7919 * (k : Int))) % 2147483647)) (by walk_at "ev") ?_
      generalize hm : (c * (48271 + 69621 * (i : Int) + 7919 * (k : Int))) % 2147483647 = m
      have hm0 : 0 ≤ m ∧ m < 2147483647 := by omega
      refine q_set (d := .int ((m * m + 40503 * m) % 1000003)) (by walk_at "ev") ?_
      refine sv_app (by walk_at "mem") (by walk_at "ev") (d := .int (((m * m + 40503 * m) % 1000003 / 11) % 12)) (by walk_at "ev") hlen ?_
      rw [digS, if_neg hb, setC_0]
      refine ⟨⟨rfl, rfl, rfl, rfl, rfl, rfl, trivial⟩, ?_⟩
      rw [show mixD c k i = ((m * m + 40503 * m) % 1000003 / 11) % 12 by unfold mixD; rw [hm]]
      simp
  · exact sv_retc rfl (by walk_at "mem")
end
/-! ### _law_is_number -/
abbrev s__law_is_number : Stmt := topS 11
abbrev N__law_is_number : List Str := ["_law_told"]
theorem S__law_is_number : FnScope N__law_is_number ["_law_told"] (defScope s__law_is_number) := ⟨rfl, rfl, rfl, by decide +kernel, rfl, by decide +kernel, by decide +kernel⟩
def A__law_is_number (K : PySem.W.Frag) (ds : List D) (o : Out) : Prop := ∃ i : Int, ds = [.int i] ∧ o = .ret (.bl true)

section
variable {P : Program} {w : World} {K : PySem.W.Frag} {mg : Str → Option Value} {base : Heap}
theorem ok__law_is_number {f : Addr} {fd : FuncData} (F : Fun K "_law_is_number" "_law_is_number" s__law_is_number f fd)  (z_bool : mg "bool" = none) (z_int : mg "int" = none) (z_isinstance : mg "isinstance" = none)   : FnOk P w K mg base (L2N.CX P w) 1 f fd ["_law_told"] (spO K 1 (A__law_is_number K)) := by
  refine fn_okD (N := N__law_is_number) F S__law_is_number rfl fun cdv A' outer s H E hr tk po => ⟨_, (pss_one (ps_ret (pe_and (pe_callB (cr_isiK K) (by rfl) z_isinstance (by decide +kernel) (pa_cons (pv 0) (pa_cons (pe_bltn (v := .ty "int") (u := .type "int") (by rfl) z_int (by decide +kernel) rfl) pa_nil))) (pe_one (pe_not (pe_callB (cr_isiK K) (by rfl) z_isinstance (by decide +kernel) (pa_cons (pv 0) (pa_cons (pe_bltn (v := .ty "bool") (u := .type "bool") (by rfl) z_bool (by decide +kernel) rfl) pa_nil)))))))), fun ds o hn hA => ?_⟩
  try dsimp only [cxN, cxOf]
  obtain ⟨i, rfl, rfl⟩ := hA
  refine sv_ret (d := .bl (true && !false)) ?_ rfl
  refine ev_andV ?_ fun _ => ?_
  · walk_at "ev"
  · walk_at "ev"
theorem okH__law_is_number {f : Addr} {fd : FuncData} (F : Fun K "_law_is_number" "_law_is_number" s__law_is_number f fd) (z_bool : mg "bool" = none) (z_int : mg "int" = none) (z_isinstance : mg "isinstance" = none)  : L2H.FnH P w K mg base (L2N.CX P w) 1 f fd ["_law_told"] (spO K 1 (A__law_is_number K)) := by
  refine fn_okH (N := N__law_is_number) F S__law_is_number rfl fun cdv A' outer s H E p hr => ⟨_, (pss_one (ps_ret (pe_and (pe_callB (cr_isiK K) (by rfl) z_isinstance (by decide +kernel) (pa_cons (pv 0) (pa_cons (pe_bltn (v := .ty "int") (u := .type "int") (by rfl) z_int (by decide +kernel) rfl) pa_nil))) (pe_one (pe_not (pe_callB (cr_isiK K) (by rfl) z_isinstance (by decide +kernel) (pa_cons (pv 0) (pa_cons (pe_bltn (v := .ty "bool") (u := .type "bool") (by rfl) z_bool (by decide +kernel) rfl) pa_nil)))))))), fun ds o hn hA => ?_⟩
  try dsimp only [L2H.cxH, cxOf]
  obtain ⟨i, rfl, rfl⟩ := hA
  refine sv_ret (d := .bl (true && !false)) ?_ rfl
  refine ev_andV ?_ fun _ => ?_
  · walk_at "ev"
  · walk_at "ev"
end
/-! ### _law_refused -/
abbrev s__law_refused : Stmt := topS 13
abbrev N__law_refused : List Str := ["_law_rows", "_law_bad", "e"]
theorem S__law_refused : FnScope N__law_refused ["_law_rows", "_law_bad"] (defScope s__law_refused) := ⟨rfl, rfl, rfl, by decide +kernel, rfl, by decide +kernel, by decide +kernel⟩
def A__law_refused (K : PySem.W.Frag) (ds : List D) (o : Out) : Prop := ∃ (R : List (List Int)) (p : Int), R.length ≤ 100 ∧ firstBad R.length R = some p ∧ ds = [rL R, .int p] ∧ o = .ret (.bl true)

section
variable {P : Program} {w : World} {K : PySem.W.Frag} {mg : Str → Option Value} {base : Heap}
theorem ok__law_refused {f : Addr} {fd : FuncData} (F : Fun K "_law_refused" "_law_refused" s__law_refused f fd) (C_Relation : Cx1 P w K mg base 3 "Relation" (ga K "Relation") ["self", "rows"] (spI K (ga K "Relation") 1 (A_Relation____init__ K))) (H__law_is_number : Hx P w K mg base 1 "_law_is_number" ["_law_told"] (spO K 1 (A__law_is_number K))) (z_ValueError : mg "ValueError" = none) (z_isinstance : mg "isinstance" = none) (g_BadPlace : mg "BadPlace" = some (.ref (ga K "BadPlace"))) (g_BadWindow : mg "BadWindow" = some (.ref (ga K "BadWindow"))) (g_SizeMismatch : mg "SizeMismatch" = some (.ref (ga K "SizeMismatch"))) (g_VoiceError : mg "VoiceError" = some (.ref (ga K "VoiceError"))) (k_exm_BadPlace_BadPlace : PySem.W.exmOne K (.ref (ga K "BadPlace")) (.ref (ga K "BadPlace")) = some true) (k_kit_BadPlace_VoiceError : PySem.W.kitOne K (.ref (ga K "BadPlace")) (.ref (ga K "VoiceError")) = some true) (k_kitT_BadPlace_ValueError : PySem.W.kitOne K (.ref (ga K "BadPlace")) (.type "ValueError") = some true) (k_kit_BadPlace_SizeMismatch : PySem.W.kitOne K (.ref (ga K "BadPlace")) (.ref (ga K "SizeMismatch")) = some false) (k_kit_BadPlace_BadWindow : PySem.W.kitOne K (.ref (ga K "BadPlace")) (.ref (ga K "BadWindow")) = some false) (k_ec_BadPlace : Ec K (ga K "BadPlace")) (k_nf_BadPlace_place : PySem.W.findIn K (.ref (ga K "BadPlace")) "place" = some none) : FnOk P w K mg base (L2N.CX P w) 5 f fd ["_law_rows", "_law_bad"] (spO K 2 (A__law_refused K)) := by
  refine fn_okD (N := N__law_refused) F S__law_refused rfl fun cdv A' outer s H E hr tk po => ⟨_, (pss_cons (ps_tryN K (i := 2) rfl rfl S__law_refused.nd rfl rfl ⟨rfl, by decide, .inl g_BadPlace⟩ tk (fun W pn xe tk po => (pss_one (ps_expr (pe_makeFS tk C_Relation hr (pa_cons (pv 0) pa_nil))))) (fun a oe cls d pn hz hf => (pss_cons (ps_if (PW.pt (pw_or (pt_truK K (pe_callB (call_isX hz.zc hf) (by rfl) z_isinstance (by decide +kernel) (pa_cons (pv 2) (pa_cons (pe_glob (v := .ref (ga K "SizeMismatch")) rfl g_SizeMismatch rfl) pa_nil)))) (pw_or1 (pt_truK K (pe_callB (call_isX hz.zc hf) (by rfl) z_isinstance (by decide +kernel) (pa_cons (pv 2) (pa_cons (pe_glob (v := .ref (ga K "BadWindow")) rfl g_BadWindow rfl) pa_nil))))))) (pss_one (ps_ret pe_bl)) pss_nil)
 (pss_one (ps_ret (pe_and (pe_callB (call_isX hz.zc hf) (by rfl) z_isinstance (by decide +kernel) (pa_cons (pv 2) (pa_cons (pe_glob (v := .ref (ga K "VoiceError")) rfl g_VoiceError rfl) pa_nil))) (pe_and (pe_callB (call_isX hz.zc hf) (by rfl) z_isinstance (by decide +kernel) (pa_cons (pv 2) (pa_cons (pe_bltn (v := .ty "ValueError") (u := .type "ValueError") (by rfl) z_ValueError (by decide +kernel) rfl) pa_nil))) (pe_and (pe_callHF hz hf H__law_is_number hr (pa_cons (pe_xfU hz.zc hf (pv 2)) pa_nil)) (pe_one (pe_cmpR (op_eqK K hr.units) (pe_xfU hz.zc hf (pv 2)) (pv 1) (nomark _)))))))))))
 (pss_one (ps_ret pe_bl))), fun ds o hn hA => ?_⟩
  try dsimp only [cxN, cxOf]
  obtain ⟨R, p, hR, hf0, rfl, rfl⟩ := hA
  have hro : relOut K R = .exc (.ref (ga K "BadPlace")) (some [("place", .int p)]) := by
    unfold relOut
    rw [hf0]
  refine sv_seq (sv_tryN fun W' => ?_)
  refine sv_dropX (ee_makeS (ea_cons (ev_var rfl) ea_nil) ⟨true, true, R, rfl, by omega, hro.symm⟩ rfl) ?_
  refine ⟨true, k_exm_BadPlace_BadPlace, fun _ x dd hdd hx => ?_, fun h => by cases h⟩
  cases dd with
  | none => cases hdd
  | some pd =>
    refine q_when (b := (false || false)) (et_or (et_truB (ev_cb (by walk_at "ev") (cd_isX k_ec_BadPlace (.own _) k_kit_BadPlace_SizeMismatch (fun p hp => by cases hp; exact ⟨_, by walk_at "mem"⟩)))) fun _ => et_truB (ev_cb (by walk_at "ev") (cd_isX k_ec_BadPlace (.own _) k_kit_BadPlace_BadWindow (fun p hp => by cases hp; exact ⟨_, by walk_at "mem"⟩)))) (fun hb => by cases hb) (fun _ => ?_)
    have hpl : ∀ (ρ : Ro), ρ[2]? = some (some (.any (.ref x))) → Ev K (tXfU K x (.ref (ga K "BadPlace")) (some pd) "place" (tVar 2)) ρ (exC (some pd) (some [("place", .int p)]) []) (.int p) := fun ρ h => ev_xf k_ec_BadPlace k_nf_BadPlace_place (ev_var h) (by walk_at "mem") rfl
    refine sv_ret (d := .bl true) (Ev.of (d := .bl (true && (true && (true && decide (p = p))))) ?_ (by simp)) rfl
    refine ev_andV (ev_cb (by walk_at "ev") (cd_isX k_ec_BadPlace (.own _) k_kit_BadPlace_VoiceError (fun p hp => by cases hp; exact ⟨_, by walk_at "mem"⟩))) fun _ => ev_andV (ev_cb (by walk_at "ev") (cd_isX k_ec_BadPlace (.ty _) k_kitT_BadPlace_ValueError (fun p hp => by cases hp; exact ⟨_, by walk_at "mem"⟩))) fun _ => ev_andV ?_ fun _ => ?_
    · exact ev_callH (ea_cons (hpl _ rfl) ea_nil) (spO_ret ⟨p, rfl, rfl⟩ rfl)
    · exact ev_op (Ev.er (hpl _ rfl)) (by walk_at "ev") opd_eqI
end
/-! ### _law_same_rows -/
abbrev s__law_same_rows : Stmt := topS 12
abbrev N__law_same_rows : List Str := ["_law_rows", "_law_due", "_law_p", "_law_j"]
theorem S__law_same_rows : FnScope N__law_same_rows ["_law_rows", "_law_due"] (defScope s__law_same_rows) := ⟨rfl, rfl, rfl, by decide +kernel, rfl, by decide +kernel, by decide +kernel⟩
def A__law_same_rows (K : PySem.W.Frag) (ds : List D) (o : Out) : Prop := ∃ R : List (List Int), ds = [rT R, rL R] ∧ R.length ≤ 1000 ∧ (∀ r ∈ R, r.length ≤ 1000) ∧ o = .ret (.bl true)

section
variable {P : Program} {w : World} {K : PySem.W.Frag} {mg : Str → Option Value} {base : Heap}
theorem ok__law_same_rows {f : Addr} {fd : FuncData} (F : Fun K "_law_same_rows" "_law_same_rows" s__law_same_rows f fd) (F__law_is_number : Fx P w K mg base 1 "_law_is_number" ["_law_told"] (spO K 1 (A__law_is_number K))) (z_isinstance : mg "isinstance" = none) (z_len : mg "len" = none) (z_range : mg "range" = none) (z_tuple : mg "tuple" = none)   : FnOk P w K mg base (L2N.CX P w) 2 f fd ["_law_rows", "_law_due"] (spO K 2 (A__law_same_rows K)) := by
  refine fn_okD (N := N__law_same_rows) F S__law_same_rows rfl fun cdv A' outer s H E hr tk po => ⟨_, (pss_cons (ps_if (PW.pt (pw_or (pt_not (pt_truK K (pe_callB (cr_isiK K) (by rfl) z_isinstance (by decide +kernel) (pa_cons (pv 0) (pa_cons (pe_bltn (v := .ty "tuple") (u := .type "tuple") (by rfl) z_tuple (by decide +kernel) rfl) pa_nil))))) (pw_or1 (pt_cmpR (op_neK K hr.units) (pe_callB (cr_lenK K) (by rfl) z_len (by decide +kernel) (pa_cons (pv 0) pa_nil)) (pe_callB (cr_lenK K) (by rfl) z_len (by decide +kernel) (pa_cons (pv 1) pa_nil)) (nomark _))))) (pss_one (ps_ret pe_bl)) pss_nil)
 (pss_cons (ps_for po rfl (pi_range1 (by rfl) z_range (pa_cons (pe_callB (cr_lenK K) (by rfl) z_len (by decide +kernel) (pa_cons (pv 1) pa_nil)) pa_nil)) (pg_name (i := 2) S__law_same_rows.nd rfl (Or.inl rfl))
  (pss_cons (ps_if (PW.pt (pw_or (pt_not (pt_truK K (pe_callB (cr_isiK K) (by rfl) z_isinstance (by decide +kernel) (pa_cons (pe_ix (ix_seqK K) (pv 0) (pv 2) (fun _ _ => rfl)) (pa_cons (pe_bltn (v := .ty "tuple") (u := .type "tuple") (by rfl) z_tuple (by decide +kernel) rfl) pa_nil))))) (pw_or1 (pt_cmpR (op_neK K hr.units) (pe_callB (cr_lenK K) (by rfl) z_len (by decide +kernel) (pa_cons (pe_ix (ix_seqK K) (pv 0) (pv 2) (fun _ _ => rfl)) pa_nil)) (pe_callB (cr_lenK K) (by rfl) z_len (by decide +kernel) (pa_cons (pe_ix (ix_seqK K) (pv 1) (pv 2) (fun _ _ => rfl)) pa_nil)) (nomark _))))) (pss_one (ps_ret pe_bl)) pss_nil)
 (pss_one (ps_for po rfl (pi_range1 (by rfl) z_range (pa_cons (pe_callB (cr_lenK K) (by rfl) z_len (by decide +kernel) (pa_cons (pe_ix (ix_seqK K) (pv 1) (pv 2) (fun _ _ => rfl)) pa_nil)) pa_nil)) (pg_name (i := 3) S__law_same_rows.nd rfl (Or.inl rfl))
  (pss_one (ps_if (PW.pt (pw_or (pt_not (pt_truK K (pe_callFS tk F__law_is_number hr (pa_cons (pe_ix (ix_seqK K) (pe_ix (ix_seqK K) (pv 0) (pv 2) (fun _ _ => rfl)) (pv 3) (fun _ _ => rfl)) pa_nil)))) (pw_or1 (pt_cmpR (op_neK K hr.units) (pe_ix (ix_seqK K) (pe_ix (ix_seqK K) (pv 0) (pv 2) (fun _ _ => rfl)) (pv 3) (fun _ _ => rfl)) (pe_ix (ix_seqK K) (pe_ix (ix_seqK K) (pv 1) (pv 2) (fun _ _ => rfl)) (pv 3) (fun _ _ => rfl)) (nomark _))))) (pss_one (ps_ret pe_bl)) pss_nil))))))
 (pss_one (ps_ret pe_bl)))), fun ds o hn hA => ?_⟩
  try dsimp only [cxN, cxOf]
  obtain ⟨R, rfl, hlen, hrow, rfl⟩ := hA
  refine q_when (b := (!true || !decide (((R.map fun r => D.tup (dI r)).length : Int) = ((R.map fun r => D.lst (dI r)).length : Int)))) (et_or (by walk_at "ev") fun _ => by walk_at "ev") (fun hb => by simp at hb) (fun _ => ?_)
  refine q_forR (n := R.length) (by refine ea_cons (Ev.of (by walk_at "ev") (by rw [List.length_map])) ea_nil) (by omega) (fun _ => [some (rT R), some (rL R), none, none]) (fun _ => []) ⟨rfl, rfl, trivial⟩ rfl (fun p hp => ?_) ?_
  · obtain ⟨r, hr⟩ : ∃ r, R[p]? = some r := ⟨R[p], List.getElem?_eq_getElem hp⟩
    have hmem : r ∈ R := List.mem_of_getElem? hr
    have a1 : atI (R.map fun r => D.tup (dI r)) (p : Int) = some (.tup (dI r)) := Lv.atI_nat (at_map hr)
    have a2 : atI (R.map fun r => D.lst (dI r)) (p : Int) = some (.lst (dI r)) := Lv.atI_nat (at_map hr)
    have v1 : ∀ ρ : Ro, ρ[0]? = some (some (rT R)) → ρ[2]? = some (some (.int p)) → Ev K (tOp (rIx K) (tVar 0) (tVar 2)) ρ [] (.tup (dI r)) := fun ρ h0 h2 => ev_op (Ev.er (ev_var h0)) (Ev.er (ev_var h2)) (opd_ixT a1)
    have v2 : ∀ ρ : Ro, ρ[1]? = some (some (rL R)) → ρ[2]? = some (some (.int p)) → Ev K (tOp (rIx K) (tVar 1) (tVar 2)) ρ [] (.lst (dI r)) := fun ρ h0 h2 => ev_op (Ev.er (ev_var h0)) (Ev.er (ev_var h2)) (opd_ixL a2)
    refine q_when (b := (!true || !decide (((dI r).length : Int) = ((dI r).length : Int)))) (et_or (et_not (et_truB (ev_cb (ear_cons (Ev.er (v1 _ rfl rfl)) (by walk_at "ev")) (by walk_at "ev")))) fun _ => et_test (ev_op (Ev.er (ev_cb (ear_cons (Ev.er (v1 _ rfl rfl)) ear_nil) cd_lenT)) (Ev.er (ev_cb (ear_cons (Ev.er (v2 _ rfl rfl)) ear_nil) cd_lenL)) opd_neI)) (fun hb => by simp at hb) (fun _ => ?_)
    refine sv_forF (ds := (List.range r.length).map fun i : Nat => D.int (i : Int)) (ei_rng1 (n := r.length) (ea_cons (Ev.of (ev_cb (ear_cons (Ev.er (v2 _ rfl rfl)) ear_nil) cd_lenL) (by rw [List.length_map])) ea_nil) (by have := hrow r hmem; omega)) (fun _ => [some (rT R), some (rL R), some (.int p), none]) (fun _ => []) (fun _ => True) ⟨rfl, rfl, rfl, trivial⟩ rfl trivial (fun _ => no_src) (fun i d hd _ => ?_) (fun _ ρ' hl => ⟨?_, rfl⟩)
    · have hi : i < r.length := by
        have := (List.getElem?_eq_some_iff.mp hd).1
        simpa using this
      rw [List.getElem?_map, List.getElem?_range hi] at hd
      cases hd
      refine ⟨_, _, eg_name, ?_⟩
      obtain ⟨x, hx⟩ : ∃ x, r[i]? = some x := ⟨r[i], List.getElem?_eq_getElem hi⟩
      have b1 : atI (dI r) (i : Int) = some (.int x) := Lv.atI_nat (at_map hx)
      have w1 : Ev K (tOp (rIx K) (tOp (rIx K) (tVar 0) (tVar 2)) (tVar 3)) [some (rT R), some (rL R), some (.int p), some (.int i)] [] (.int x) := ev_op (Ev.er (v1 _ rfl rfl)) (by walk_at "ev") (opd_ixT b1)
      have w2 : Ev K (tOp (rIx K) (tOp (rIx K) (tVar 1) (tVar 2)) (tVar 3)) [some (rT R), some (rL R), some (.int p), some (.int i)] [] (.int x) := ev_op (Ev.er (v2 _ rfl rfl)) (by walk_at "ev") (opd_ixL b1)
      refine sv_when (b := (!true || !decide (x = x))) (et_or (et_not (et_truB (ev_callS (ea_cons w1 ea_nil) (spO_ret ⟨x, rfl, rfl⟩ rfl)))) fun _ => et_test (ev_op (Ev.er w1) (Ev.er w2) opd_neI)) (fun hb => by simp at hb) (fun _ => ⟨⟨rfl, rfl, rfl, trivial⟩, rfl, trivial⟩)
    · obtain ⟨h1, h2, h3, h4⟩ : ∃ x3, ρ' = [some (rT R), some (rL R), some (.int p), x3] := by
        match ρ', hl with
        | [x0, x1, x2, x3], hl => obtain ⟨rfl, rfl, rfl, _⟩ := hl; exact ⟨x3, rfl⟩
      exact ⟨rfl, rfl, trivial⟩
  · exact sv_ret (by walk_at "ev") rfl
end
/-! ### law -/
abbrev s_law : Stmt := topS 14
abbrev N_law : List Str := ["_law_script", "_law_digits_here", "_law_size", "_law_rows", "_law_j", "_law_due", "_law_handed", "_law_relation", "_law_second", "_law_far", "_law_bad", "_law_at", "_law_spoilt", "_law_i", "_law_row", "_law_q"]
theorem S_law : FnScope N_law ["_law_script"] (defScope s_law) := ⟨rfl, rfl, rfl, by decide +kernel, rfl, by decide +kernel, by decide +kernel⟩
def A_law (K : PySem.W.Frag) (ds : List D) (o : Out) : Prop := ∃ ns : List Int, ds = [.scr ns] ∧ o = .ret (.bl true)
theorem law_holds (K : PySem.W.Frag) (ns : List Int) (h : ns.length ≤ 63) : A_law K [.scr ns] (.ret (.bl true)) := ⟨ns, rfl, rfl⟩
theorem nlL_ints (xs : List Int) : nlL (dI xs) = true := by
  unfold dI
  induction xs with
  | nil => rfl
  | cons x xs ih => rw [List.map_cons, nlL, ih]; rfl
theorem nl_rT (R : List (List Int)) : nl (rT R) = true := by
  rw [nl]
  induction R with
  | nil => rfl
  | cons r R ih => rw [List.map_cons, nlL, ih, nl, nlL_ints]; rfl

section
variable {P : Program} {w : World} {K : PySem.W.Frag} {mg : Str → Option Value} {base : Heap}
theorem ok_law {f : Addr} {fd : FuncData} (F : Fun K "law" "law" s_law f fd) (C_Relation : Cx1 P w K mg base 3 "Relation" (ga K "Relation") ["self", "rows"] (spI K (ga K "Relation") 1 (A_Relation____init__ K))) (F__law_cell : Fx P w K mg base 1 "_law_cell" ["_law_script", "_law_k"] (spO K 2 (A__law_cell K))) (F__law_digits : Fx P w K mg base 2 "_law_digits" ["_law_script", "_law_k", "_law_count"] (spO K 3 (A__law_digits K))) (F__law_is_number : Fx P w K mg base 1 "_law_is_number" ["_law_told"] (spO K 1 (A__law_is_number K))) (F__law_refused : Fx P w K mg base 5 "_law_refused" ["_law_rows", "_law_bad"] (spO K 2 (A__law_refused K))) (F__law_same_rows : Fx P w K mg base 2 "_law_same_rows" ["_law_rows", "_law_due"] (spO K 2 (A__law_same_rows K))) (z_int : mg "int" = none) (z_len : mg "len" = none) (z_list : mg "list" = none) (z_range : mg "range" = none) (z_tuple : mg "tuple" = none)  (k_cls_Relation : Cls K (ga K "Relation")) (k_noat_Relation_size : NoAttr K (ga K "Relation") "size") (k_noat_Relation_rows : NoAttr K (ga K "Relation") "rows") : FnOk P w K mg base (L2N.CX P w) 6 f fd ["_law_script"] (spO K 1 (A_law K)) := by
  refine fn_okD (N := N_law) F S_law rfl fun cdv A' outer s H E hr tk po => ⟨_, (pss_cons (ps_set (i := 1) S_law.nd rfl (Or.inr rfl) (pe_callFS tk F__law_digits hr (pa_cons (pv 0) (pa_cons pe_int (pa_cons pe_int pa_nil)))))
 (pss_cons (ps_set (i := 2) S_law.nd rfl (Or.inr rfl) (pe_ix (ix_seqK K) (pe_lst (pa_cons pe_int (pa_cons pe_int (pa_cons pe_int (pa_cons pe_int (pa_cons pe_int (pa_cons pe_int (pa_cons pe_int (pa_cons pe_int (pa_cons pe_int (pa_cons pe_int (pa_cons pe_int (pa_cons pe_int pa_nil))))))))))))) (pe_ix (ix_seqK K) (pv 1) pe_int (fun _ _ => rfl)) (fun _ _ => rfl)))
 (pss_cons (ps_set (i := 3) S_law.nd rfl (Or.inl rfl) (pe_lst pa_nil))
 (pss_cons (ps_for po rfl (pi_range1 (by rfl) z_range (pa_cons (pv 2) pa_nil)) (pg_name (i := 4) S_law.nd rfl (Or.inr rfl))
  (pss_one (ps_expr (pe_bm PySem.F.plainAttrs_list PySem.F.slot_list_append PySem.F.type_list_append mt_append (pv 3) (pa_cons (pe_lc (own := [("_law_i", 13)]) (by rfl) S_law.nd (pi_range1 (by rfl) z_range (pa_cons (pe_op op_mod (pe_callTy cr_int (by rfl) z_int (by decide +kernel) (pa_cons (pe_ix (ix_seqK K) (pv 1) (pe_op (op_addK K) pe_int (pv 4)) (fun _ _ => rfl)) pa_nil)) pe_int) pa_nil)) (blkOk_by (own := [("_law_i", 13)]) (N := N_law) (sc := (defScope s_law)) (by decide +kernel)) (fun _ _ _ _ _ => (pg_name (i := 13) S_law.nd rfl (Or.inl rfl))) (fun _ _ _ _ _ => pts_nil) (fun _ _ _ _ _ => (pe_op op_mod (pe_callTy cr_int (by rfl) z_int (by decide +kernel) (pa_cons (pe_ix (ix_seqK K) (pv 1) (pe_op (op_addK K) (pe_op (op_addK K) pe_int (pe_op op_mul pe_int (pv 4))) (pv 13)) (fun _ _ => rfl)) pa_nil)) (pv 2)))) pa_nil)))))
 (pss_cons (ps_setLc (i := 5) (own := [("_law_row", 14)]) rfl S_law.nd rfl rfl (sw_true rfl rfl rfl (by decide +kernel)) (pi_seqK K (pv 3)) (blkOk_by (own := [("_law_row", 14)]) (N := N_law) (sc := (defScope s_law)) (by decide +kernel)) (fun _ _ _ _ _ => (pg_name (i := 14) S_law.nd rfl (Or.inr rfl))) (fun _ _ _ _ _ => pts_nil) (fun _ _ _ _ _ => (pe_lc (own := [("_law_q", 15)]) (by rfl) S_law.nd (pi_range1 (by rfl) z_range (pa_cons (pv 2) pa_nil)) (blkOk_by (own := [("_law_q", 15)]) (N := N_law) (sc := _) (by rfl)) (fun _ _ _ _ _ => (pg_name (i := 15) S_law.nd rfl (Or.inl rfl))) (fun _ _ _ _ _ => (pts_one (pt_cmpR (op_inK K (u65 hr)) (pv 15) (pv 14) (by rfl)))) (fun _ _ _ _ _ => (pv 15)))))
 (pss_cons (ps_setLc (i := 6) (own := [("_law_row", 14)]) rfl S_law.nd rfl rfl (sw_true rfl rfl rfl (by decide +kernel)) (pi_seqK K (pv 3)) (blkOk_by (own := [("_law_row", 14)]) (N := N_law) (sc := (defScope s_law)) (by decide +kernel)) (fun _ _ _ _ _ => (pg_name (i := 14) S_law.nd rfl (Or.inl rfl))) (fun _ _ _ _ _ => pts_nil) (fun _ _ _ _ _ => (pe_callTy (cr_listK K) (by rfl) z_list (by decide +kernel) (pa_cons (pv 14) pa_nil))))
 (pss_cons (ps_set (i := 7) S_law.nd rfl (Or.inl rfl) (pe_makeFS tk C_Relation hr (pa_cons (pv 6) pa_nil)))
 (pss_cons (ps_if (PW.pt (pw_or (pt_not (pt_truK K (pe_callFS tk F__law_is_number hr (pa_cons (pe_fldK K (pv 7) rfl) pa_nil)))) (pw_or (pt_cmpR (op_neK K hr.units) (pe_fldK K (pv 7) rfl) (pv 2) (nomark _)) (pw_or1 (pt_not (pt_truK K (pe_callFS tk F__law_same_rows hr (pa_cons (pe_fldK K (pv 7) rfl) (pa_cons (pv 5) pa_nil))))))))) (pss_one (ps_ret pe_bl)) pss_nil)
 (pss_cons (ps_if (pt_cmpR (op_neK K hr.units) (pv 6) (pv 3) (nomark _)) (pss_one (ps_ret pe_bl)) pss_nil)
 (pss_cons (ps_expr (pe_bm PySem.F.plainAttrs_list PySem.F.slot_list_append PySem.F.type_list_append mt_append (pv 6) (pa_cons (pe_lst (pa_cons pe_int pa_nil)) pa_nil)))
 (pss_cons (ps_expr (pe_bm PySem.F.plainAttrs_list PySem.F.slot_list_append PySem.F.type_list_append mt_append (pe_ix (ix_seqK K) (pv 6) pe_int (fun _ _ => rfl)) (pa_cons (pe_op op_sub (pv 2) pe_int) pa_nil)))
 (pss_cons (ps_set (i := 8) S_law.nd rfl (Or.inl rfl) (pe_makeFS tk C_Relation hr (pa_cons (pe_callTy (cr_tupleK K) (by rfl) z_tuple (by decide +kernel) (pa_cons (pe_lc (own := [("_law_row", 14)]) (by rfl) S_law.nd (pi_seqK K (pv 3)) (blkOk_by (own := [("_law_row", 14)]) (N := N_law) (sc := (defScope s_law)) (by decide +kernel)) (fun _ _ _ _ _ => (pg_name (i := 14) S_law.nd rfl (Or.inl rfl))) (fun _ _ _ _ _ => pts_nil) (fun _ _ _ _ _ => (pe_callTy (cr_tupleK K) (by rfl) z_tuple (by decide +kernel) (pa_cons (pv 14) pa_nil)))) pa_nil)) pa_nil)))
 (pss_cons (ps_if (PW.pt (pw_or (pt_not (pt_truK K (pe_callFS tk F__law_same_rows hr (pa_cons (pe_fldK K (pv 7) rfl) (pa_cons (pv 5) pa_nil))))) (pw_or (pt_not (pt_truK K (pe_callFS tk F__law_same_rows hr (pa_cons (pe_fldK K (pv 8) rfl) (pa_cons (pv 5) pa_nil))))) (pw_or1 (pt_cmpR (op_neK K hr.units) (pe_fldK K (pv 7) rfl) (pv 2) (nomark _)))))) (pss_one (ps_ret pe_bl)) pss_nil)
 (pss_cons (ps_if (pt_cmpR (op_eqK K hr.units) (pv 2) pe_int (nomark _)) (pss_one (ps_ret (pe_cmpR (op_eqK K hr.units) (pe_fldK K (pv 8) rfl) pe_int (nomark _)))) pss_nil)
 (pss_cons (ps_set (i := 9) S_law.nd rfl (Or.inl rfl) (pe_op op_mod (pe_callTy cr_int (by rfl) z_int (by decide +kernel) (pa_cons (pe_callFS tk F__law_cell hr (pa_cons (pv 0) (pa_cons pe_int pa_nil))) pa_nil)) (pe_op op_pow pe_int pe_int)))
 (pss_cons (ps_set (i := 10) S_law.nd rfl (Or.inl rfl) (pe_ix (ix_seqK K) (pe_lst (pa_cons (pe_op op_sub pe_int pe_int) (pa_cons (pv 2) (pa_cons (pe_op (op_addK K) (pv 2) (pv 9)) (pa_cons (pe_op op_sub (pe_op op_sub pe_int pe_int) (pv 9)) pa_nil))))) (pe_op op_mod (pe_callTy cr_int (by rfl) z_int (by decide +kernel) (pa_cons (pe_ix (ix_seqK K) (pv 1) pe_int (fun _ _ => rfl)) pa_nil)) pe_int) (fun _ _ => rfl)))
 (pss_cons (ps_set (i := 11) S_law.nd rfl (Or.inl rfl) (pe_op op_mod (pe_callTy cr_int (by rfl) z_int (by decide +kernel) (pa_cons (pe_ix (ix_seqK K) (pv 1) pe_int (fun _ _ => rfl)) pa_nil)) (pv 2)))
 (pss_cons (ps_setLc (i := 12) (own := [("_law_row", 14)]) rfl S_law.nd rfl rfl (sw_true rfl rfl rfl (by decide +kernel)) (pi_seqK K (pv 3)) (blkOk_by (own := [("_law_row", 14)]) (N := N_law) (sc := (defScope s_law)) (by decide +kernel)) (fun _ _ _ _ _ => (pg_name (i := 14) S_law.nd rfl (Or.inl rfl))) (fun _ _ _ _ _ => pts_nil) (fun _ _ _ _ _ => (pe_callTy (cr_listK K) (by rfl) z_list (by decide +kernel) (pa_cons (pv 14) pa_nil))))
 (pss_cons (ps_expr (pe_bm PySem.F.plainAttrs_list PySem.F.slot_list_insert PySem.F.type_list_insert mt_insV (pe_ix (ix_seqK K) (pv 12) (pv 11) (fun _ _ => rfl)) (pa_cons (pe_op op_mod (pe_callTy cr_int (by rfl) z_int (by decide +kernel) (pa_cons (pe_ix (ix_seqK K) (pv 1) pe_int (fun _ _ => rfl)) pa_nil)) (pe_op (op_addK K) (pe_callB (cr_lenK K) (by rfl) z_len (by decide +kernel) (pa_cons (pe_ix (ix_seqK K) (pv 12) (pv 11) (fun _ _ => rfl)) pa_nil)) pe_int)) (pa_cons (pv 10) pa_nil))))
 (pss_cons (ps_expr (pe_bm PySem.F.plainAttrs_list PySem.F.slot_list_append PySem.F.type_list_append mt_append (pe_ix (ix_seqK K) (pv 12) (pe_op op_sub (pv 2) pe_int) (fun _ _ => rfl)) (pa_cons (pe_op (op_addK K) (pv 2) pe_int) pa_nil)))
 (pss_one (ps_ret (pe_callFS tk F__law_refused hr (pa_cons (pv 12) (pa_cons (pv 10) pa_nil))))))))))))))))))))))))), fun ds o hn hA => ?_⟩
  try dsimp only [cxN, cxOf]
  obtain ⟨ns, rfl, rfl⟩ := hA
  have cell : ∀ (ρ : Ro) (cs : Cs) (k : Nat), ρ[0]? = some (some (.scr ns)) → Ev K (tCallS (spO K 2 (A__law_cell K)) (WE (Wd E)) (tCons (tVar 0) (tCons (tC (.int k)) tNil))) ρ cs (.int (ns.getD k 0)) := fun ρ cs k h => ev_callS (ds := [.scr ns, .int k]) (ea_cons (ev_var h) (by walk_at "ev")) (spO_ret ⟨ns, k, rfl, rfl⟩ rfl)
  refine q_set (d := .lst ((digL ns 0 59).map D.int)) (EvN.ev (en_callS (ds := [.scr ns, .int 0, .int 59]) (by walk_at "ev") (spO_new ⟨ns, 0, 59, rfl, by omega, by omega, rfl⟩ rfl))) ?_
  have dg : ∀ (ρ : Ro) (cs : Cs) (i : Nat), ρ[1]? = some (some (.lst ((digL ns 0 59).map D.int))) → i < 59 → Ev K (tOp (rIx K) (tVar 1) (tC (.int i))) ρ cs (.int (dig ns 0 59 i : Nat)) := fun ρ cs i h hi => ev_op (Ev.er (ev_var h)) (Ev.er ev_cint) (opd_ixL (Lv.atI_nat (dig_at hi)))
  have dgx : ∀ (ρ : Ro) (cs : Cs) (te : TE) (i : Nat), ρ[1]? = some (some (.lst ((digL ns 0 59).map D.int))) → i < 59 → Ev K te ρ cs (.int (i : Int)) → Ev K (tOp (rIx K) (tVar 1) te) ρ cs (.int (dig ns 0 59 i : Nat)) := fun ρ cs te i h hi hte => ev_op (Ev.er (ev_var h)) (Ev.er hte) (opd_ixL (Lv.atI_nat (dig_at hi)))
  have hd0 : dig ns 0 59 0 < 12 := dig_lt
  obtain ⟨n, hn9, hnn⟩ : ∃ n : Nat, n ≤ 9 ∧ ([.int 2, .int 3, .int 1, .int 0, .int 4, .int 5, .int 3, .int 9, .int 2, .int 4, .int 6, .int 3] : List D)[dig ns 0 59 0]? = some (.int n) := by
    generalize dig ns 0 59 0 = i at hd0
    match i, hd0 with
    | 0, _ => exact ⟨2, by omega, rfl⟩
    | 1, _ => exact ⟨3, by omega, rfl⟩
    | 2, _ => exact ⟨1, by omega, rfl⟩
    | 3, _ => exact ⟨0, by omega, rfl⟩
    | 4, _ => exact ⟨4, by omega, rfl⟩
    | 5, _ => exact ⟨5, by omega, rfl⟩
    | 6, _ => exact ⟨3, by omega, rfl⟩
    | 7, _ => exact ⟨9, by omega, rfl⟩
    | 8, _ => exact ⟨2, by omega, rfl⟩
    | 9, _ => exact ⟨4, by omega, rfl⟩
    | 10, _ => exact ⟨6, by omega, rfl⟩
    | 11, _ => exact ⟨3, by omega, rfl⟩
  refine q_set (d := .int n) (ev_op (EvN.er (en_lst (ds := [.int 2, .int 3, .int 1, .int 0, .int 4, .int 5, .int 3, .int 9, .int 2, .int 4, .int 6, .int 3]) (by walk_at "ev") (by simp))) (Ev.er (dg _ _ 0 rfl (by omega))) (opd_ixL (Lv.atI_nat hnn))) ?_
  refine q_setN (ds := []) (by walk_at "ev"; simp) fun ra hra _ => ?_
  refine q_forR (n := n) (by walk_at "ev") (by omega)
    (fun _ => [some (.scr ns), some (.lst ((digL ns 0 59).map D.int)), some (.int n), some (.any (.ref ra)), none, none, none, none, none, none, none, none, none, none, none, none]) (fun i => [(ra, .lst (((List.range i).map (rowK ns n)).map fun r => .lst (dI r)))]) ⟨rfl, rfl, rfl, rfl, trivial⟩ rfl (fun j hj => ?_) ?_
  · refine sv_app (a := ra) (d := .lst (dI (rowK ns n j))) (by walk_at "mem") (by walk_at "ev") (EvN.ev (EvN.of (en_mapR (n := dig ns 0 59 (1 + j) % 5) (v := fun i : Nat => D.int ((dig ns 0 59 (10 + 5 * j + i) % n : Nat) : Int)) (ea_cons (Ev.of (ev_op (Ev.er (ev_cb (ear_cons (Ev.er (dgx _ _ _ (1 + j) rfl (by omega) (Ev.of (by walk_at "ev") (by push_cast; rfl)))) ear_nil) cd_int)) (by walk_at "ev") (opd_mod (by decide))) (by push_cast; rfl)) ea_nil) (by omega) (by simp) (fun i hi => ?_)) ?_)) (by simp; omega) ?_
    · have h4 : dig ns 0 59 (1 + j) % 5 < 5 := Nat.mod_lt _ (by decide)
      refine Ev.of (ev_op (Ev.er (ev_cb (ear_cons (Ev.er (dgx _ _ _ (10 + 5 * j + i) rfl (by omega) (Ev.of (by walk_at "ev") (by push_cast; rfl)))) ear_nil) cd_int)) (by walk_at "ev") (opd_mod (by omega))) (by push_cast; rfl)
    · unfold rowK dI
      rw [List.map_map]
      rfl
    · rw [setC_0]
      refine ⟨⟨rfl, rfl, rfl, rfl, trivial⟩, ?_⟩
      rw [List.range_succ, List.map_append, List.map_append]
      rfl
  show Sv _ _ _ _ _ [(ra, rL (rowsK ns n))] _
  have hRl : (rowsK ns n).length = n := rowsK_len
  have hR4 : ∀ r ∈ rowsK ns n, r.length ≤ 4 := fun r hr => (rowsK_in hr).1
  have hRb : ∀ r ∈ rowsK ns n, ∀ x ∈ r, badP n x = false := fun r hr => (rowsK_in hr).2
  generalize rowsK ns n = R at hRl hR4 hRb
  refine sv_freeze (a := ra) [some (.scr ns), some (.lst ((digL ns 0 59).map D.int)), some (.int n), some (rL R), none, none, none, none, none, none, none, none, none, none, none, none] (by walk_at "mem") hra ⟨.inl rfl, .inl rfl, .inl rfl, .inr ⟨rfl, rfl⟩, .inl rfl, .inl rfl, .inl rfl, .inl rfl, .inl rfl, .inl rfl, .inl rfl, .inl rfl, .inl rfl, .inl rfl, .inl rfl, .inl rfl, trivial⟩ rfl ?_
  rw [show delC ra [(ra, rL R)] = [] from by unfold delC; simp]
  refine q_set (d := rL (R.map (norm n))) (EvN.ev (EvN.of (en_mapL (xs := R) (enc := fun r => .lst (dI r)) (v := fun r => D.lst (dI (norm n r))) (ei_seqL (ev_var rfl)) (by omega) (by simp) (fun r hr => EvN.ev (EvN.of (en_lcR (f := fun q : Nat => inD (.int (q : Int)) (dI r)) (v := fun q : Nat => D.int (q : Int)) (n := n) (by walk_at "ev") (by omega) (by simp) (fun q hq => et_test (ev_op (x := .int q) (y := .lst (dI r)) (by walk_at "ev") (by walk_at "ev") (opd_inL (n := 9) (by decide) ok_int (okL_ints 9 r)))) (fun q hq _ => by walk_at "ev")) ?_))) (by rw [List.map_map]; rfl))) ?_
  · unfold norm dI
    rw [List.filter_map, List.map_map]
    congr 1
    apply List.filter_congr
    intro q _
    exact (inD_dec apart_int)
  have hnest : ∀ (ρ : Ro) (cs : Cs), ρ[3]? = some (some (rL R)) → (∀ x, ((wipeD ρ [14]).set 14 (some x))[14]? = some (some x)) → EvNN K (tLc (iSeq K (tVar 3)) (gName 14) tYes (tCB (uList K) (tCons (tVar 14) tNil)) [14]) ρ cs (R.map fun r => .lst (dI r)) := fun ρ cs h hl =>
    en_nest (xs := R) (enc := fun r => .lst (dI r)) (v := fun r => dI r) (js := [14]) (ρ' := fun r => (wipeD ρ [14]).set 14 (some (.lst (dI r)))) (ei_seqL (ev_var h)) (fun r hr => eg_name) (by simp) (fun r hr => en_cb (ear_cons (Ev.er (ev_var (hl _))) ear_nil) cn_listL) (by omega)
  have hlst : ∀ (cl : Cs) (S : List (List Int)), cl.map (·.2) = S.map (fun r => D.lst (dI r)) → lstC cl := fun cl S h c hc => by
    have : c.2 ∈ cl.map (·.2) := List.mem_map.mpr ⟨c, hc, rfl⟩
    rw [h] at this
    obtain ⟨r, _, e⟩ := List.mem_map.mp this
    exact ⟨_, e.symm⟩
  have hlst2 : ∀ (p : Addr) (cl : Cs) (ds : List D), lstC cl → lstC ((p, .lst ds) :: cl) := fun p cl ds h c hc => by
    rcases List.mem_cons.mp hc with rfl | hc
    · exact ⟨_, rfl⟩
    · exact h c hc
  have celAt : ∀ (cl : Cs) (S : List (List Int)) (i : Nat) (r : List Int), cl.map (·.2) = S.map (fun r => D.lst (dI r)) → S[i]? = some r → ∃ a, cl[i]? = some (a, .lst (dI r)) := fun cl S i r h hi => by
    have e : (cl.map (·.2))[i]? = some (.lst (dI r)) := by rw [h]; exact at_map hi
    rw [List.getElem?_map] at e
    cases hc : cl[i]? with
    | none => rw [hc] at e; cases e
    | some c =>
      rw [hc] at e
      obtain ⟨a, d⟩ := c
      have e : d = .lst (dI r) := by simpa using e
      exact ⟨a, by rw [e]⟩
  have same : ∀ (ρ : Ro) (cs : Cs) (tr td : TE), Ev K tr ρ cs (rT (R.map (norm n))) → Ev K td ρ cs (rL (R.map (norm n))) → EvT K (tNot (uTru K (tCallS (spO K 2 (A__law_same_rows K)) (WE (Wd E)) (tCons tr (tCons td tNil))))) ρ cs (!true) := fun ρ cs tr td h1 h2 =>
    et_not (et_truB (ev_callS (ea_cons h1 (ea_cons h2 ea_nil)) (spO_ret ⟨R.map (norm n), rfl, by rw [List.length_map]; omega, fun r hr => by obtain ⟨s, _, rfl⟩ := List.mem_map.mp hr; have := norm_len (n := n) (r := s); omega, rfl⟩ rfl)))
  have rws : ∀ (ρ : Ro) (cs : Cs) (i : Nat), ρ[i]? = some (some (relD K n (R.map (norm n)))) → Ev K (tFld K (tVar i) "rows") ρ cs (rT (R.map (norm n))) := fun ρ cs i h => ev_fld (Ev.er (ev_var h)) k_cls_Relation k_noat_Relation_rows rfl
  have siz : ∀ (ρ : Ro) (cs : Cs) (i : Nat), ρ[i]? = some (some (relD K n (R.map (norm n)))) → Ev K (tFld K (tVar i) "size") ρ cs (.int n) := fun ρ cs i h => ev_fld (Ev.er (ev_var h)) k_cls_Relation k_noat_Relation_size rfl
  have okR : ∀ R : List (List Int), ok 9 (rL R) = true := fun R => by
    show ok (8 + 1) (.lst _) = true
    rw [ok_lst, okL_map, List.all_eq_true]
    intro r _
    show ok (7 + 1) (.lst _) = true
    rw [ok_lst]
    exact okL_ints 7 r
  refine q_setNN (hnest _ _ rfl (fun _ => rfl)) fun hp hc hds hf => ?_
  rw [List.append_nil]
  have hlc := hlst hc R hds
  have hL0 := hlst2 hp hc (hc.map fun c => .any (.ref c.1)) hlc
  refine q_set (d := relD K n (R.map (norm n))) (ev_makeW (ds := [rL R]) (eav_cons (vv_nest (cl := hc) (ev_var rfl) List.mem_cons_self (fun c h => List.mem_cons_of_mem _ h) hlc hds) eav_nil) ⟨true, true, R, rfl, by omega, (relOut_good K hRl hRb).symm⟩ rfl hL0 (by rw [nlF, nlF, nlF, nl_rT, nl]; rfl)) ?_
  refine q_when (b := (!true || (!decide ((n : Int) = (n : Int)) || !true))) (et_or (et_not (et_truB (ev_callS (ds := [.int n]) (ea_cons (siz _ _ 7 rfl) ea_nil) (spO_ret ⟨n, rfl, rfl⟩ rfl)))) fun _ => et_or (et_test (ev_op (Ev.er (siz _ _ 7 rfl)) (by walk_at "ev") opd_neI)) fun _ => same _ _ _ _ (rws _ _ 7 rfl) (ev_var rfl)) (fun hb => by simp at hb) (fun _ => ?_)
  refine q_when (b := !eqD (rL R) (rL R)) (et_test (ev_opV (vv_nest (cl := hc) (ev_var rfl) List.mem_cons_self (fun c h => List.mem_cons_of_mem _ h) hlc hds) (Ev.vv (ev_var rfl)) (opd_neU (n := 9) (by decide) (okR R) (okR R)) hL0 rfl)) (fun hb => ?_) (fun _ => ?_)
  · have : eqD (rL R) (rL R) = true := ((apart_int.lst).lst R R).mpr rfl
    rw [this] at hb
    cases hb
  have hcl : hc.length = n := by
    have := congrArg List.length hds
    rw [List.length_map, List.length_map] at this
    omega
  refine sv_seq (sv_appC (a := hp) (es := [.int 0]) List.mem_cons_self (by walk_at "ev") (en_lst (by walk_at "ev") (by simp)) (by rw [List.length_map]; omega) fun b hb hbc => ?_)
  rw [setC_0]
  obtain ⟨x, ds0, hx, hl0, h0⟩ : ∃ x ds0, (x, D.lst ds0) ∈ ((b, D.lst [.int 0]) :: (hp, D.lst (hc.map (fun c => D.any (.ref c.1)) ++ [.any (.ref b)])) :: hc) ∧ ds0.length ≤ 10 ∧ (hc.map (fun c => D.any (.ref c.1)) ++ [.any (.ref b)])[0]? = some (.any (.ref x)) := by
    cases hcc : hc with
    | nil => exact ⟨b, _, List.mem_cons_self, by simp, rfl⟩
    | cons c cl =>
      obtain ⟨a, d⟩ := c
      have hm : d ∈ hc.map (·.2) := by rw [hcc]; exact List.mem_map.mpr ⟨_, List.mem_cons_self, rfl⟩
      rw [hds] at hm
      obtain ⟨r, hr, rfl⟩ := List.mem_map.mp hm
      exact ⟨a, dI r, List.mem_cons_of_mem _ (List.mem_cons_of_mem _ List.mem_cons_self), by rw [List.length_map]; have := hR4 r hr; omega, rfl⟩
  refine q_app (a := x) (ds := ds0) (d := .int (n - 1)) hx (ev_op (er_cell rfl (List.mem_cons_of_mem _ List.mem_cons_self)) (Ev.er ev_cint) (opd_ixL (Lv.atI_nat (j := 0) h0))) (by walk_at "ev") (by omega) rfl ?_
  refine sv_forget (cs2 := []) ?_ (by simp) (by simp)
  refine q_set (d := relD K n (R.map (norm n))) (ev_makeS (ds := [sq false (R.map fun r => sq false (dI r))]) (ea_cons (ev_cb (ear_cons (EvN.er (en_mapL (xs := R) (enc := fun r => .lst (dI r)) (v := fun r => D.tup (dI r)) (ei_seqL (ev_var rfl)) (by omega) (by simp) (fun r hr => ev_cb (by walk_at "ev") cd_tupL))) ear_nil) cd_tupL) ea_nil) ⟨false, false, R, rfl, by omega, (relOut_good K hRl hRb).symm⟩ rfl) ?_
  refine q_when (b := (!true || (!true || !decide ((n : Int) = (n : Int))))) (et_or (same _ _ _ _ (rws _ _ 7 rfl) (ev_var rfl)) fun _ => et_or (same _ _ _ _ (rws _ _ 8 rfl) (ev_var rfl)) fun _ => et_test (ev_op (Ev.er (siz _ _ 7 rfl)) (by walk_at "ev") opd_neI)) (fun hb => by simp at hb) (fun _ => ?_)
  refine q_when (b := decide ((n : Int) = 0)) (by walk_at "ev") (fun hb => ?_) (fun hb => ?_)
  · exact sv_ret (d := .bl true) (Ev.of (ev_op (Ev.er (siz _ _ 8 rfl)) (by walk_at "ev") opd_eqI) (by rw [hb])) rfl
  have hn0 : 0 < n := by have := of_decide_eq_false hb; omega
  obtain ⟨far, hfar0, hfar⟩ : ∃ far : Int, 0 ≤ far ∧ ns.getD 1 0 % 10 ^ 30 = far := ⟨_, by omega, rfl⟩
  refine q_set (d := .int far) (Ev.of (ev_op (Ev.er (ev_cb (ear_cons (Ev.er (cell _ _ 1 rfl)) ear_nil) cd_int)) (by walk_at "ev") (opd_mod (by decide))) (by rw [← hfar]; rfl)) ?_
  let bd : List Int := [0 - 1, n, n + far, 0 - 2 - far]
  obtain ⟨bad, hbad, hbb⟩ : ∃ bad, bd[dig ns 0 59 57 % 4]? = some bad ∧ badP n bad = true := by
    have h4 : dig ns 0 59 57 % 4 < 4 := Nat.mod_lt _ (by decide)
    generalize dig ns 0 59 57 % 4 = i at h4
    match i, h4 with
    | 0, _ => exact ⟨_, rfl, by unfold badP; simp⟩
    | 1, _ => exact ⟨_, rfl, by unfold badP; simp⟩
    | 2, _ => exact ⟨_, rfl, by unfold badP; simp; omega⟩
    | 3, _ => exact ⟨_, rfl, by unfold badP; simp; omega⟩
  refine q_set (d := .int bad) (ev_op (x := .lst (bd.map D.int)) (y := .int ((dig ns 0 59 57 % 4 : Nat) : Int)) (EvN.er (en_lst (ds := [.int (0 - 1), .int n, .int (n + far), .int (0 - 2 - far)]) (by walk_at "ev") (by simp))) (Ev.er (Ev.of (ev_op (Ev.er (ev_cb (ear_cons (Ev.er (dg _ _ 57 rfl (by omega))) ear_nil) cd_int)) (by walk_at "ev") (opd_mod (by decide))) (by push_cast; rfl))) (opd_ixL (Lv.atI_nat (at_map hbad)))) ?_
  obtain ⟨at_, hat, hatn⟩ : ∃ k : Nat, k = dig ns 0 59 58 % n ∧ k < n := ⟨_, rfl, Nat.mod_lt _ hn0⟩
  refine q_set (d := .int at_) (Ev.of (ev_op (Ev.er (ev_cb (ear_cons (Ev.er (dg _ _ 58 rfl (by omega))) ear_nil) cd_int)) (by walk_at "ev") (opd_mod (by omega))) (by rw [hat]; push_cast; rfl)) ?_
  refine q_setNN (hnest _ _ rfl (fun _ => rfl)) fun sp cl hds2 hf2 => ?_
  rw [List.append_nil]
  have nd2 := (List.nodup_cons.mp hf2.nd)
  obtain ⟨r, hr⟩ : ∃ r, R[at_]? = some r := ⟨_, List.getElem?_eq_getElem (by omega)⟩
  have hr4 := hR4 r (List.mem_of_getElem? hr)
  obtain ⟨a1, ha1⟩ := celAt cl R at_ r hds2 hr
  have hm1 := List.mem_of_getElem? ha1
  have hne1 : sp ≠ a1 := fun z => nd2.1 (by rw [z]; exact List.mem_map.mpr ⟨_, hm1, rfl⟩)
  have el1 : (cl.map fun c => D.any (.ref c.1))[at_]? = some (.any (.ref a1)) := at_map (f := fun c : Addr × D => D.any (.ref c.1)) ha1
  let j := dig ns 0 59 56 % (r.length + 1)
  have hj : j < r.length + 1 := Nat.mod_lt _ (by omega)
  refine sv_seq (sv_ins (a := a1) (ds := dI r) (j := j) (d := .int bad) (List.mem_cons_of_mem _ hm1) (ev_op (er_cell rfl List.mem_cons_self) (by walk_at "ev") (opd_ixL (Lv.atI_nat el1))) (Ev.of (ev_op (Ev.er (ev_cb (ear_cons (Ev.er (dg _ _ 56 rfl (by omega))) ear_nil) cd_int)) (Ev.er (ev_op (x := .int ((dI r).length : Nat)) (Ev.er (ev_cb (ear_cons (er_thru (ev_op (er_cell rfl List.mem_cons_self) (by walk_at "ev") (opd_ixL (Lv.atI_nat el1))) (List.mem_cons_of_mem _ hm1)) ear_nil) cd_lenL)) (by walk_at "ev") opd_add)) (opd_mod (by rw [List.length_map]; omega))) (by rw [List.length_map]; show _ = D.int ((dig ns 0 59 56 % (r.length + 1) : Nat) : Int); push_cast; rfl)) (by omega) (by walk_at "ev") (by rw [List.length_map]; omega) ?_)
  have e1 : (dI r).take j ++ [.int bad] ++ (dI r).drop j = dI (r.take j ++ [bad] ++ r.drop j) := by
    unfold dI
    rw [List.map_append, List.map_append, List.map_take, List.map_drop]
    rfl
  rw [e1, setC, if_neg hne1, setC_at nd2.2 ha1]
  have f1 := set_fst (d := .lst (dI (r.take j ++ [bad] ++ r.drop j))) ha1
  have s1 : (cl.set at_ (a1, .lst (dI (r.take j ++ [bad] ++ r.drop j)))).map (·.2) = (R.set at_ (r.take j ++ [bad] ++ r.drop j)).map fun r => D.lst (dI r) := by rw [List.map_set, List.map_set, hds2]
  generalize cl.set at_ (a1, .lst (dI (r.take j ++ [bad] ++ r.drop j))) = cl1 at f1 s1
  have hset : (R.set at_ (r.take j ++ [bad] ++ r.drop j)).length = n := by rw [List.length_set]; exact hRl
  obtain ⟨r2, hr2⟩ : ∃ r2, (R.set at_ (r.take j ++ [bad] ++ r.drop j))[n - 1]? = some r2 := ⟨_, List.getElem?_eq_getElem (by omega)⟩
  have hr2l : r2.length ≤ 10 := by
    have := List.mem_of_getElem? hr2
    rcases List.mem_or_eq_of_mem_set this with h | h
    · have := hR4 r2 h; omega
    · rw [h]; simp; omega
  have hsb := spoilt_bad (y := (n : Int) + 3) hRl hRb hr hbb r2 hr2
  obtain ⟨a2, ha2⟩ := celAt cl1 _ (n - 1) r2 s1 hr2
  have hm2 := List.mem_of_getElem? ha2
  have hne2 : sp ≠ a2 := fun z => nd2.1 (by rw [← f1, z]; exact List.mem_map.mpr ⟨_, hm2, rfl⟩)
  have el2 : (cl.map fun c => D.any (.ref c.1))[n - 1]? = some (.any (.ref a2)) := by
    rw [← any_fst f1]
    exact at_map (f := fun c : Addr × D => D.any (.ref c.1)) ha2
  refine q_app (a := a2) (ds := dI r2) (d := .int (n + 3)) (cs2 := (sp, .lst (cl.map fun c => .any (.ref c.1))) :: cl1.set (n - 1) (a2, .lst (dI (r2 ++ [(n : Int) + 3])))) (List.mem_cons_of_mem _ hm2) (ev_op (y := .int ((n - 1 : Nat) : Int)) (er_cell rfl List.mem_cons_self) (Ev.er (Ev.of (by walk_at "ev") (by congr 1; omega))) (opd_ixL (Lv.atI_nat el2))) (by walk_at "ev") (by rw [List.length_map]; omega) (by rw [setC, if_neg hne2, setC_at (by rw [f1]; exact nd2.2) ha2]; unfold dI; rw [List.map_append]; rfl) ?_
  have f2 := set_fst (d := .lst (dI (r2 ++ [(n : Int) + 3]))) ha2
  have s2 : (cl1.set (n - 1) (a2, .lst (dI (r2 ++ [(n : Int) + 3])))).map (·.2) = ((R.set at_ (r.take j ++ [bad] ++ r.drop j)).set (n - 1) (r2 ++ [(n : Int) + 3])).map fun r => D.lst (dI r) := by rw [List.map_set, List.map_set, s1]
  generalize cl1.set (n - 1) (a2, .lst (dI (r2 ++ [(n : Int) + 3]))) = cl2 at f2 s2
  have hl2 : ((R.set at_ (r.take j ++ [bad] ++ r.drop j)).set (n - 1) (r2 ++ [(n : Int) + 3])).length = n := by rw [List.length_set]; exact hset
  generalize (R.set at_ (r.take j ++ [bad] ++ r.drop j)).set (n - 1) (r2 ++ [(n : Int) + 3]) = S at hsb s2 hl2
  rw [← any_fst (f2.trans f1)]
  have hlc2 := hlst cl2 S s2
  refine sv_ret (ev_callW (ds := [rL S, .int bad]) (eav_cons (vv_nest (cl := cl2) (ev_var rfl) List.mem_cons_self (fun c h => List.mem_cons_of_mem _ h) hlc2 s2) (eav_cons (Ev.vv (ev_var rfl)) eav_nil)) (spO_x ⟨S, bad, by omega, by rw [hl2]; exact hsb, rfl, rfl⟩ rfl) (hlst2 sp cl2 _ hlc2) rfl) rfl
end
/-! ### the head -/
def d_Relation____init__ : He.DefD := ⟨("Relation", some "__init__"), "__init__", "Relation.__init__", defArgs s_Relation____init__, defBody s_Relation____init__, defScope s_Relation____init__, [], []⟩
def d__law_cell : He.DefD := ⟨("_law_cell", none), "_law_cell", "_law_cell", defArgs s__law_cell, defBody s__law_cell, defScope s__law_cell, [], []⟩
def d__law_digits : He.DefD := ⟨("_law_digits", none), "_law_digits", "_law_digits", defArgs s__law_digits, defBody s__law_digits, defScope s__law_digits, [], []⟩
def d__law_is_number : He.DefD := ⟨("_law_is_number", none), "_law_is_number", "_law_is_number", defArgs s__law_is_number, defBody s__law_is_number, defScope s__law_is_number, [], []⟩
def d__law_refused : He.DefD := ⟨("_law_refused", none), "_law_refused", "_law_refused", defArgs s__law_refused, defBody s__law_refused, defScope s__law_refused, [], []⟩
def d__law_same_rows : He.DefD := ⟨("_law_same_rows", none), "_law_same_rows", "_law_same_rows", defArgs s__law_same_rows, defBody s__law_same_rows, defScope s__law_same_rows, [], []⟩
def d_law : He.DefD := ⟨("law", none), "law", "law", defArgs s_law, defBody s_law, defScope s_law, [], []⟩
def d_BadPlace : He.DefD := ⟨("BadPlace", some "__init__"), "__init__", "BadPlace.__init__", defArgs s_BadPlace, defBody s_BadPlace, defScope s_BadPlace, [], []⟩
def fn : List He.DefD := [d_Relation____init__, d__law_cell, d__law_digits, d__law_is_number, d__law_refused, d__law_same_rows, d_law, d_BadPlace]
def fa : List He.Fa := [.glo "BadPlace", .glo "BadWindow", .glo "Relation", .glo "SizeMismatch", .glo "VoiceError", .glo "_law_cell", .glo "_law_digits", .glo "_law_is_number", .glo "_law_refused", .glo "_law_same_rows", .glo "law", .free "ValueError", .free "bool", .free "int", .free "isinstance", .free "len", .free "list", .free "range", .free "tuple"]
def exL (K : PySem.W.Frag) : List Bool := [He.Fa.ok K (.cls "Relation"),
  noatB K (ga K "Relation") "size",
  noatB K (ga K "Relation") "rows",
  exmB K (ga K "BadPlace") (ga K "BadPlace") true,
  kitB1 K (ga K "BadPlace") (.ref (ga K "VoiceError")) true,
  kitB1 K (ga K "BadPlace") (.type "ValueError") true,
  kitB1 K (ga K "BadPlace") (.ref (ga K "SizeMismatch")) false,
  kitB1 K (ga K "BadPlace") (.ref (ga K "BadWindow")) false,
  ecB K (ga K "BadPlace"),
  noatB K (ga K "BadPlace") "place",
  He.Fa.ok K (.mkr "Relation"),
  oexB K (ga K "BadPlace"),
  xinB K (ga K "BadPlace")]
def exB (K : PySem.W.Frag) : Bool := (exL K).all id
abbrev R : PySem.W.OpenRow := PySem.W.OpenLaw.row PySem.Challenge.rw_lookvoice_k01_relation_rows
abbrev hk : PySem.W.Hook := He.hookX 5 fa fn [] [] exB
def ob (s : PySem.W.SharedT) : He.AlX := He.obsX 5 fa fn [] [] exB (HandSHeadRun.getT s)
theorem ob_eq (s : PySem.W.SharedT) : ob s = hk.obs s.abs := He.obsX_eq (HandSHeadRun.getT_eq s)
def loose : List Str := (["_wall", "VoiceError", "BadPlace", "SizeMismatch", "BadWindow", "Relation", "_law_cell", "_law_digits", "_law_is_number", "_law_same_rows", "_law_refused"] : List Str)
theorem run (w : World) : HandSHeadRun.RunEq R (PySem.W.view R.prog [14]) hk ob 6000 loose w := by
  intro os
  kernel_rfl
theorem facts {P : Program} {w : World} {K : PySem.W.Frag} {h : Heap} {mg : Str → Option Value} {f : Addr} (X : K.In h) (G : h.Ns mainGlobals mg) (hfa : mg ("law" : Str) = some (.ref f)) (c : He.SaysX fa fn [] [] exB w h K) :
    ∃ fd : FuncData, (∀ (s : Shared) (v : Value), BindsTo s fd ⟨[v], []⟩ [("_law_script", v)]) ∧ ∀ base : Heap, K.In base → base.Ns mainGlobals mg → FnOk P w K mg base (L2N.CX P w) 6 f fd ["_law_script"] (spO K 1 (A_law K)) := by
  have cd : He.SaysD fa fn K := He.SaysT.d c.t
  have g_BadPlace : mg "BadPlace" = some (.ref (ga K "BadPlace")) := He.glo_ok X G (cd.fact 0 (f := .glo "BadPlace") rfl)
  have g_BadWindow : mg "BadWindow" = some (.ref (ga K "BadWindow")) := He.glo_ok X G (cd.fact 1 (f := .glo "BadWindow") rfl)
  have g_Relation : mg "Relation" = some (.ref (ga K "Relation")) := He.glo_ok X G (cd.fact 2 (f := .glo "Relation") rfl)
  have g_SizeMismatch : mg "SizeMismatch" = some (.ref (ga K "SizeMismatch")) := He.glo_ok X G (cd.fact 3 (f := .glo "SizeMismatch") rfl)
  have g_VoiceError : mg "VoiceError" = some (.ref (ga K "VoiceError")) := He.glo_ok X G (cd.fact 4 (f := .glo "VoiceError") rfl)
  have g__law_cell : mg "_law_cell" = some (.ref (ga K "_law_cell")) := He.glo_ok X G (cd.fact 5 (f := .glo "_law_cell") rfl)
  have g__law_digits : mg "_law_digits" = some (.ref (ga K "_law_digits")) := He.glo_ok X G (cd.fact 6 (f := .glo "_law_digits") rfl)
  have g__law_is_number : mg "_law_is_number" = some (.ref (ga K "_law_is_number")) := He.glo_ok X G (cd.fact 7 (f := .glo "_law_is_number") rfl)
  have g__law_refused : mg "_law_refused" = some (.ref (ga K "_law_refused")) := He.glo_ok X G (cd.fact 8 (f := .glo "_law_refused") rfl)
  have g__law_same_rows : mg "_law_same_rows" = some (.ref (ga K "_law_same_rows")) := He.glo_ok X G (cd.fact 9 (f := .glo "_law_same_rows") rfl)
  have g_law : mg "law" = some (.ref (ga K "law")) := He.glo_ok X G (cd.fact 10 (f := .glo "law") rfl)
  have z_ValueError : mg "ValueError" = none := He.free_ok X G (cd.fact 11 (f := .free "ValueError") rfl)
  have z_bool : mg "bool" = none := He.free_ok X G (cd.fact 12 (f := .free "bool") rfl)
  have z_int : mg "int" = none := He.free_ok X G (cd.fact 13 (f := .free "int") rfl)
  have z_isinstance : mg "isinstance" = none := He.free_ok X G (cd.fact 14 (f := .free "isinstance") rfl)
  have z_len : mg "len" = none := He.free_ok X G (cd.fact 15 (f := .free "len") rfl)
  have z_list : mg "list" = none := He.free_ok X G (cd.fact 16 (f := .free "list") rfl)
  have z_range : mg "range" = none := He.free_ok X G (cd.fact 17 (f := .free "range") rfl)
  have z_tuple : mg "tuple" = none := He.free_ok X G (cd.fact 18 (f := .free "tuple") rfl)
  have more : ∀ b ∈ exL K, b = true := fun b hb => List.all_eq_true.mp (show (exL K).all id = true from c.more) b hb
  have k_cls_Relation : Cls K (ga K "Relation") := by
    have h : (He.Fa.ok K (.cls "Relation")) = true := more _ (List.mem_of_getElem? (i := 0) rfl)
    exact He.cls_ok h
  have k_noat_Relation_size : NoAttr K (ga K "Relation") "size" := by
    have h : (noatB K (ga K "Relation") "size") = true := more _ (List.mem_of_getElem? (i := 1) rfl)
    exact He.eqO_ok h
  have k_noat_Relation_rows : NoAttr K (ga K "Relation") "rows" := by
    have h : (noatB K (ga K "Relation") "rows") = true := more _ (List.mem_of_getElem? (i := 2) rfl)
    exact He.eqO_ok h
  have k_exm_BadPlace_BadPlace : PySem.W.exmOne K (.ref (ga K "BadPlace")) (.ref (ga K "BadPlace")) = some true := by
    have h : (exmB K (ga K "BadPlace") (ga K "BadPlace") true) = true := more _ (List.mem_of_getElem? (i := 3) rfl)
    exact of_decide_eq_true h
  have k_kit_BadPlace_VoiceError : PySem.W.kitOne K (.ref (ga K "BadPlace")) (.ref (ga K "VoiceError")) = some true := by
    have h : (kitB1 K (ga K "BadPlace") (.ref (ga K "VoiceError")) true) = true := more _ (List.mem_of_getElem? (i := 4) rfl)
    exact of_decide_eq_true h
  have k_kitT_BadPlace_ValueError : PySem.W.kitOne K (.ref (ga K "BadPlace")) (.type "ValueError") = some true := by
    have h : (kitB1 K (ga K "BadPlace") (.type "ValueError") true) = true := more _ (List.mem_of_getElem? (i := 5) rfl)
    exact of_decide_eq_true h
  have k_kit_BadPlace_SizeMismatch : PySem.W.kitOne K (.ref (ga K "BadPlace")) (.ref (ga K "SizeMismatch")) = some false := by
    have h : (kitB1 K (ga K "BadPlace") (.ref (ga K "SizeMismatch")) false) = true := more _ (List.mem_of_getElem? (i := 6) rfl)
    exact of_decide_eq_true h
  have k_kit_BadPlace_BadWindow : PySem.W.kitOne K (.ref (ga K "BadPlace")) (.ref (ga K "BadWindow")) = some false := by
    have h : (kitB1 K (ga K "BadPlace") (.ref (ga K "BadWindow")) false) = true := more _ (List.mem_of_getElem? (i := 7) rfl)
    exact of_decide_eq_true h
  have k_ec_BadPlace : Ec K (ga K "BadPlace") := by
    have h : (ecB K (ga K "BadPlace")) = true := more _ (List.mem_of_getElem? (i := 8) rfl)
    exact ecB_ok h
  have k_nf_BadPlace_place : PySem.W.findIn K (.ref (ga K "BadPlace")) "place" = some none := by
    have h : (noatB K (ga K "BadPlace") "place") = true := more _ (List.mem_of_getElem? (i := 9) rfl)
    exact He.eqO_ok h
  have k_mk_Relation : Mk K (ga K "Relation") (He.ma K (ga K "Relation") "__init__") := by
    have h : (He.Fa.ok K (.mkr "Relation")) = true := more _ (List.mem_of_getElem? (i := 10) rfl)
    exact He.mkr_ok h
  have k_oex_BadPlace : OexC K (ga K "BadPlace") := by
    have h : (oexB K (ga K "BadPlace")) = true := more _ (List.mem_of_getElem? (i := 11) rfl)
    exact oexB_ok h
  have k_xin_BadPlace : xinB K (ga K "BadPlace") = true := by
    have h : (xinB K (ga K "BadPlace")) = true := more _ (List.mem_of_getElem? (i := 12) rfl)
    exact h
  obtain ⟨fd_Relation____init__, F_un_Relation____init__⟩ := cd.def_ 0 (d := d_Relation____init__) rfl
  have Fun_Relation____init__ : Fun K "__init__" "Relation.__init__" s_Relation____init__ _ fd_Relation____init__ := He5.fun_of F_un_Relation____init__
  have b_Relation____init__ : Binds K fd_Relation____init__ ["self", "rows"] [] := Fun_Relation____init__.binds (ps := ["self", "rows"]) fun _ _ _ _ _ _ us hl => match us, hl with | [_, _], _ => rfl
  obtain ⟨fd__law_cell, F_un__law_cell⟩ := cd.def_ 1 (d := d__law_cell) rfl
  have Fun__law_cell : Fun K "_law_cell" "_law_cell" s__law_cell _ fd__law_cell := He5.fun_of F_un__law_cell
  have b__law_cell : Binds K fd__law_cell ["_law_script", "_law_k"] [] := Fun__law_cell.binds (ps := ["_law_script", "_law_k"]) fun _ _ _ _ _ _ us hl => match us, hl with | [_, _], _ => rfl
  obtain ⟨fd__law_digits, F_un__law_digits⟩ := cd.def_ 2 (d := d__law_digits) rfl
  have Fun__law_digits : Fun K "_law_digits" "_law_digits" s__law_digits _ fd__law_digits := He5.fun_of F_un__law_digits
  have b__law_digits : Binds K fd__law_digits ["_law_script", "_law_k", "_law_count"] [] := Fun__law_digits.binds (ps := ["_law_script", "_law_k", "_law_count"]) fun _ _ _ _ _ _ us hl => match us, hl with | [_, _, _], _ => rfl
  obtain ⟨fd__law_is_number, F_un__law_is_number⟩ := cd.def_ 3 (d := d__law_is_number) rfl
  have Fun__law_is_number : Fun K "_law_is_number" "_law_is_number" s__law_is_number _ fd__law_is_number := He5.fun_of F_un__law_is_number
  have b__law_is_number : Binds K fd__law_is_number ["_law_told"] [] := Fun__law_is_number.binds (ps := ["_law_told"]) fun _ _ _ _ _ _ us hl => match us, hl with | [_], _ => rfl
  obtain ⟨fd__law_refused, F_un__law_refused⟩ := cd.def_ 4 (d := d__law_refused) rfl
  have Fun__law_refused : Fun K "_law_refused" "_law_refused" s__law_refused _ fd__law_refused := He5.fun_of F_un__law_refused
  have b__law_refused : Binds K fd__law_refused ["_law_rows", "_law_bad"] [] := Fun__law_refused.binds (ps := ["_law_rows", "_law_bad"]) fun _ _ _ _ _ _ us hl => match us, hl with | [_, _], _ => rfl
  obtain ⟨fd__law_same_rows, F_un__law_same_rows⟩ := cd.def_ 5 (d := d__law_same_rows) rfl
  have Fun__law_same_rows : Fun K "_law_same_rows" "_law_same_rows" s__law_same_rows _ fd__law_same_rows := He5.fun_of F_un__law_same_rows
  have b__law_same_rows : Binds K fd__law_same_rows ["_law_rows", "_law_due"] [] := Fun__law_same_rows.binds (ps := ["_law_rows", "_law_due"]) fun _ _ _ _ _ _ us hl => match us, hl with | [_, _], _ => rfl
  obtain ⟨fd_law, F_un_law⟩ := cd.def_ 6 (d := d_law) rfl
  have Fun_law : Fun K "law" "law" s_law _ fd_law := He5.fun_of F_un_law
  have b_law : Binds K fd_law ["_law_script"] [] := Fun_law.binds (ps := ["_law_script"]) fun _ _ _ _ _ _ us hl => match us, hl with | [_], _ => rfl
  obtain ⟨fd_BadPlace, F_un_BadPlace⟩ := cd.def_ 7 (d := d_BadPlace) rfl
  have Fun_BadPlace : Fun K "__init__" "BadPlace.__init__" s_BadPlace _ fd_BadPlace := He5.fun_of F_un_BadPlace
  have b_BadPlace : Binds K fd_BadPlace ["self", "place"] [] := Fun_BadPlace.binds (ps := ["self", "place"]) fun _ _ _ _ _ _ us hl => match us, hl with | [_, _], _ => rfl
  have e := hfa.symm.trans g_law
  cases e
  refine ⟨fd_law, fun s v => FunD.bindsA (ps := ["_law_script"]) F_un_law (fun _ _ _ _ _ _ us hl => match us, hl with | [_], _ => rfl) s [v] rfl, fun base _ _ => ?_⟩
  have X_BadPlace : Xc P w K mg base "BadPlace" "place" (ga K "BadPlace") := ⟨k_oex_BadPlace, g_BadPlace, k_nf_BadPlace_place, _, fd_BadPlace, He.eqO_ok (He.ba k_xin_BadPlace).1, of_decide_eq_true (He.ba k_xin_BadPlace).2, ok_BadPlace Fun_BadPlace, b_BadPlace⟩
  have ok1_Relation____init__ := ok_Relation____init__ (P := P) (w := w) (mg := mg) (base := base) Fun_Relation____init__ X_BadPlace z_len z_range z_tuple k_cls_Relation k_noat_Relation_size k_noat_Relation_rows
  have C_Relation : Cx1 P w K mg base 3 "Relation" (ga K "Relation") ["self", "rows"] (spI K (ga K "Relation") 1 (A_Relation____init__ K)) := ⟨g_Relation, _, fd_Relation____init__, k_mk_Relation, ok1_Relation____init__, b_Relation____init__⟩
  have ok1__law_cell := ok__law_cell (P := P) (w := w) (mg := mg) (base := base) Fun__law_cell z_len
  have F__law_cell : Fx P w K mg base 1 "_law_cell" ["_law_script", "_law_k"] (spO K 2 (A__law_cell K)) := ⟨_, fd__law_cell, ok1__law_cell, g__law_cell, F_un__law_cell.kp, b__law_cell⟩
  have ok1__law_digits := ok__law_digits (P := P) (w := w) (mg := mg) (base := base) Fun__law_digits F__law_cell z_int z_range
  have F__law_digits : Fx P w K mg base 2 "_law_digits" ["_law_script", "_law_k", "_law_count"] (spO K 3 (A__law_digits K)) := ⟨_, fd__law_digits, ok1__law_digits, g__law_digits, F_un__law_digits.kp, b__law_digits⟩
  have ok1__law_is_number := ok__law_is_number (P := P) (w := w) (mg := mg) (base := base) Fun__law_is_number z_bool z_int z_isinstance
  have F__law_is_number : Fx P w K mg base 1 "_law_is_number" ["_law_told"] (spO K 1 (A__law_is_number K)) := ⟨_, fd__law_is_number, ok1__law_is_number, g__law_is_number, F_un__law_is_number.kp, b__law_is_number⟩
  have H__law_is_number : Hx P w K mg base 1 "_law_is_number" ["_law_told"] (spO K 1 (A__law_is_number K)) := ⟨_, fd__law_is_number, okH__law_is_number Fun__law_is_number z_bool z_int z_isinstance, g__law_is_number, F_un__law_is_number.kp, b__law_is_number⟩
  have ok1__law_refused := ok__law_refused (P := P) (w := w) (mg := mg) (base := base) Fun__law_refused C_Relation H__law_is_number z_ValueError z_isinstance g_BadPlace g_BadWindow g_SizeMismatch g_VoiceError k_exm_BadPlace_BadPlace k_kit_BadPlace_VoiceError k_kitT_BadPlace_ValueError k_kit_BadPlace_SizeMismatch k_kit_BadPlace_BadWindow k_ec_BadPlace k_nf_BadPlace_place
  have F__law_refused : Fx P w K mg base 5 "_law_refused" ["_law_rows", "_law_bad"] (spO K 2 (A__law_refused K)) := ⟨_, fd__law_refused, ok1__law_refused, g__law_refused, F_un__law_refused.kp, b__law_refused⟩
  have ok1__law_same_rows := ok__law_same_rows (P := P) (w := w) (mg := mg) (base := base) Fun__law_same_rows F__law_is_number z_isinstance z_len z_range z_tuple
  have F__law_same_rows : Fx P w K mg base 2 "_law_same_rows" ["_law_rows", "_law_due"] (spO K 2 (A__law_same_rows K)) := ⟨_, fd__law_same_rows, ok1__law_same_rows, g__law_same_rows, F_un__law_same_rows.kp, b__law_same_rows⟩
  have ok1_law := ok_law (P := P) (w := w) (mg := mg) (base := base) Fun_law C_Relation F__law_cell F__law_digits F__law_is_number F__law_refused F__law_same_rows z_int z_len z_list z_range z_tuple k_cls_Relation k_noat_Relation_size k_noat_Relation_rows
  exact ok1_law
end Pf
open PySem PySem.W PySem.Calls PyProof.Rows
theorem PySem.Challenge.cw_lookvoice_k01_relation_rows_holds : PySem.Challenge.rw_lookvoice_k01_relation_rows.Holds := by
  w_on; o_law
  refine HandSHeadRun.head_any (r := OpenLaw.row PySem.Challenge.rw_lookvoice_k01_relation_rows) (q := view (OpenLaw.row PySem.Challenge.rw_lookvoice_k01_relation_rows).prog [14]) (H := Pf.hk) (ob := Pf.ob) (M := 6000) (loose := Pf.loose) (d := HandSHeadRun.topDef (OpenLaw.row PySem.Challenge.rw_lookvoice_k01_relation_rows).prog 14) (kwd := []) Pf.ob_eq
    (by kernel_rfl) (fun s => by kernel_rfl) Pf.run (by kernel_rfl) (by kernel_rfl) (by kernel_rfl) (by rfl) (by first | assumption | decide +kernel) (by decide +kernel) ⟨rfl, rfl, rfl, rfl, rfl, by decide +kernel⟩ ?hw ?hc
  case hw => w_witness2
  case hc =>
    refine L2.walk_ofE (l := PySem.Challenge.rw_lookvoice_k01_relation_rows) (n := 63) (k := 6) (x := "_law_script") (CX := L2.CX0) rfl (by decide) (by kernel_rfl) ⟨rfl, by decide, by decide⟩ ?F (fun _ _ _ _ z => z)
    intro w mg fa h Y G hmg0
    obtain ⟨K, KX, c⟩ := Y
    have hmg : mg ("law" : PySem.Str) = some (.ref fa) := by
      have e : (HandSHeadRun.topDef (OpenLaw.row PySem.Challenge.rw_lookvoice_k01_relation_rows).prog 14).name = ("law" : PySem.Str) := by kernel_rfl
      rw [← e]
      exact hmg0
    obtain ⟨fd, hb, hF⟩ := Pf.facts (P := (PySem.Challenge.rw_lookvoice_k01_relation_rows).prog) (w := w) KX G hmg c
    exact ⟨K, fd, fun vs H Q _ => Lv.spO K 1 (Pf.A_law K) vs H Q L2.E0, KX, hb, fun H a ns hl _ hS => Lv.law_sp (Pf.law_holds K ns hl) hS, fun base h1 h2 => Lv.fn_no (hF base h1 h2)⟩

