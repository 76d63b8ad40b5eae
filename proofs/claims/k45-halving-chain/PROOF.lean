import PyProof.Rows.All
import Wide.All
import OpenK.AllK
import Wide.FinOn
import HandS.ForMost
import HandS.Deep
import HandS.Conv
import HandS.IsInst
import HandS.TupAny
import HandS.Wide
import HandS.NoneIn
import HandS.DictComp
import HandS.NamedTupSort
import HandS.Ends
import PySem.Challenge.RW_leastnest_k45_halving_chain_whole
set_option Elab.async false
set_option linter.all false
set_option maxRecDepth 100000
/-! Ir1: data read off an abstract heap, worlds of three heaps, results and slots. -/
namespace Ir
open PySem
open PySem.Spec
open L2

abbrev D := PyData

mutual
/-- v stands for the datum d in H, all of it tracked -/
inductive Rp (H : Hp) : V → D → Prop where
  | non : Rp H .non .none
  | bl (k : Bool) : Rp H (.bl k) (.bool k)
  | int (n : Int) : Rp H (.int n) (.int n)
  | str (z : Str) : Rp H (.str z) (.str z)
  | lst {p : Addr} {vs : List V} {ds : List D} (e : H p = some (.lst vs)) (r : RpA H vs ds) : Rp H (.ref p) (.list ds)
  | tup {p : Addr} {vs : List V} {ds : List D} (e : H p = some (.tup vs)) (r : RpA H vs ds) : Rp H (.ref p) (.tuple ds)
inductive RpA (H : Hp) : List V → List D → Prop where
  | nil : RpA H [] []
  | cons {v : V} {vs : List V} {d : D} {ds : List D} (r : Rp H v d) (q : RpA H vs ds) : RpA H (v :: vs) (d :: ds)
end

mutual
theorem Rp.mono {H H' : Hp} (k : Same H H') : ∀ {v : V} {d : D}, Rp H v d → Rp H' v d
  | _, _, .non => .non
  | _, _, .bl b => .bl b
  | _, _, .int i => .int i
  | _, _, .str x => .str x
  | _, _, .lst e r => .lst (k _ _ e) (RpA.mono k r)
  | _, _, .tup e r => .tup (k _ _ e) (RpA.mono k r)
theorem RpA.mono {H H' : Hp} (k : Same H H') : ∀ {vs : List V} {ds : List D}, RpA H vs ds → RpA H' vs ds
  | _, _, .nil => .nil
  | _, _, .cons r q => .cons (Rp.mono k r) (RpA.mono k q)
end
mutual
theorem Rp.dp {H H' : Hp} (K : PySem.W.Frag) (k : Same H H') : ∀ {v : V} {d : D}, Rp H v d → Dp K H' v d
  | _, _, .non => .non
  | _, _, .bl b => .bl b
  | _, _, .int i => .int i
  | _, _, .str x => .str x
  | _, _, .lst e r => .lst (SqL.of (k _ _ e)) (RpA.dp K k r)
  | _, _, .tup e r => .tup (SqT.of (k _ _ e)) (RpA.dp K k r)
theorem RpA.dp {H H' : Hp} (K : PySem.W.Frag) (k : Same H H') : ∀ {vs : List V} {ds : List D}, RpA H vs ds → DpAll K H' vs ds
  | _, _, .nil => .nil
  | _, _, .cons r q => .cons (Rp.dp K k r) (RpA.dp K k q)
end
theorem RpA.len {H : Hp} : ∀ {vs : List V} {ds : List D}, RpA H vs ds → vs.length = ds.length
  | _, _, .nil => rfl
  | _, _, .cons _ q => by rw [List.length_cons, List.length_cons, q.len]
theorem RpA.at {H : Hp} : ∀ {vs : List V} {ds : List D} {i : Nat} {d : D}, RpA H vs ds → ds[i]? = some d → ∃ v, vs[i]? = some v ∧ Rp H v d
  | _, _, _, _, .nil, e => by simp at e
  | _, _, 0, _, .cons r _, e => by
    simp at e
    exact ⟨_, rfl, e ▸ r⟩
  | _, _, i + 1, d, .cons _ q, e => by
    obtain ⟨v, h1, h2⟩ := q.at (i := i) (d := d) (by simpa using e)
    exact ⟨v, by simpa using h1, h2⟩
theorem RpA.at' {H : Hp} : ∀ {vs : List V} {ds : List D} {i : Nat} {v : V}, RpA H vs ds → vs[i]? = some v → ∃ d, ds[i]? = some d ∧ Rp H v d
  | _, _, _, _, .nil, e => by simp at e
  | _, _, 0, _, .cons r _, e => by
    simp at e
    exact ⟨_, rfl, e ▸ r⟩
  | _, _, i + 1, d, .cons _ q, e => by
    obtain ⟨v, h1, h2⟩ := q.at' (i := i) (by simpa using e)
    exact ⟨v, by simpa using h1, h2⟩
theorem RpA.app {H : Hp} : ∀ {vs ws : List V} {ds es : List D}, RpA H vs ds → RpA H ws es → RpA H (vs ++ ws) (ds ++ es)
  | _, _, _, _, .nil, s => s
  | _, _, _, _, .cons r q, s => .cons r (q.app s)
theorem RpA.one {H : Hp} {v : V} {d : D} (r : Rp H v d) : RpA H [v] [d] := .cons r .nil
theorem RpA.take {H : Hp} : ∀ {vs : List V} {ds : List D} (n : Nat), RpA H vs ds → RpA H (vs.take n) (ds.take n)
  | _, _, 0, _ => by simpa using RpA.nil
  | _, _, _ + 1, .nil => .nil
  | _, _, n + 1, .cons r q => .cons r (q.take n)
theorem RpA.drop {H : Hp} : ∀ {vs : List V} {ds : List D} (n : Nat), RpA H vs ds → RpA H (vs.drop n) (ds.drop n)
  | _, _, 0, r => r
  | _, _, _ + 1, .nil => .nil
  | _, _, n + 1, .cons _ q => q.drop n
theorem RpA.put {H : Hp} {v : V} {d : D} (r : Rp H v d) : ∀ {vs : List V} {ds : List D} (i : Nat), RpA H vs ds → RpA H (vs.set i v) (ds.set i d)
  | _, _, _, .nil => .nil
  | _, _, 0, .cons _ q => .cons r q
  | _, _, i + 1, .cons s q => .cons s (q.put r i)
theorem RpA.del {H : Hp} : ∀ {vs : List V} {ds : List D} (i : Nat), RpA H vs ds → RpA H (vs.eraseIdx i) (ds.eraseIdx i)
  | _, _, _, .nil => .nil
  | _, _, 0, .cons _ q => q
  | _, _, i + 1, .cons s q => .cons s (q.del i)
theorem RpA.rep {H : Hp} {vs : List V} {ds : List D} (r : RpA H vs ds) : ∀ k : Nat, RpA H (List.replicate k vs).flatten (List.replicate k ds).flatten
  | 0 => .nil
  | k + 1 => by
    rw [List.replicate_succ, List.replicate_succ, List.flatten_cons, List.flatten_cons]
    exact r.app (r.rep k)
theorem RpA.ints {H : Hp} : ∀ {vs : List V} {ns : List Int}, RpA H vs (ns.map PyData.int) → vs = ns.map V.int
  | _, [], .nil => rfl
  | _, n :: ns, .cons (.int _) q => by rw [List.map_cons, ← q.ints]
theorem RpA.of_ints {H : Hp} : ∀ ns : List Int, RpA H (ns.map V.int) (ns.map PyData.int)
  | [] => .nil
  | n :: ns => .cons (.int n) (RpA.of_ints ns)

/-! ### worlds -/
/-- f: what is frozen (results may reach it); b: what nobody changes while the def runs; h: all -/
structure Wd where
  f : Hp
  b : Hp
  h : Hp
structure Wd.Ok (w : Wd) : Prop where
  fb : Same w.f w.b
  bh : Same w.b w.h
theorem Wd.Ok.fh {w : Wd} (o : w.Ok) : Same w.f w.h := o.fb.trans o.bh
structure Ext (w w' : Wd) : Prop where
  h : Same w.h w'.h
  f : ∀ a, w.h a ≠ none → w'.f a = w.f a
  b : ∀ a, w.h a ≠ none → w'.b a = w.b a
  ok : w'.Ok
theorem some_ne {α : Type} {o : Option α} {x : α} (h : o = some x) : o ≠ none := by
  rw [h]
  exact fun z => nomatch z
theorem Ext.sf {w w' : Wd} (e : Ext w w') (o : w.Ok) : Same w.f w'.f := fun a x h => by
  rw [e.f a (some_ne (o.fh a x h))]
  exact h
theorem Ext.sb {w w' : Wd} (e : Ext w w') (o : w.Ok) : Same w.b w'.b := fun a x h => by
  rw [e.b a (some_ne (o.bh a x h))]
  exact h
theorem Same.there {H H' : Hp} (k : Same H H') {a : Addr} (h : H a ≠ none) : H' a ≠ none := by
  cases e : H a with
  | none => exact absurd e h
  | some x => exact some_ne (k a x e)
theorem Same.back {H H' : Hp} (k : Same H H') {a : Addr} (h : H' a = none) : H a = none := by
  cases e : H a with
  | none => rfl
  | some x => exact absurd h (some_ne (k a x e))
theorem Ext.refl {w : Wd} (o : w.Ok) : Ext w w := ⟨Same.refl _, fun _ _ => rfl, fun _ _ => rfl, o⟩
theorem Ext.trans {w w1 w2 : Wd} (a : Ext w w1) (b : Ext w1 w2) : Ext w w2 :=
  ⟨a.h.trans b.h, fun x hx => (b.f x (Same.there a.h hx)).trans (a.f x hx), fun x hx => (b.b x (Same.there a.h hx)).trans (a.b x hx), b.ok⟩
/-- a new thing at p, not frozen, not stable -/
def Wd.add (w : Wd) (p : Addr) (o : HO) : Wd := ⟨w.f, w.b, upd w.h p o⟩
/-- a new thing at p, frozen -/
def Wd.lay (w : Wd) (p : Addr) (o : HO) : Wd := ⟨upd w.f p o, upd w.b p o, upd w.h p o⟩
theorem same_new {H : Hp} {p : Addr} {o : HO} (h : H p = none) : Same H (upd H p o) := fun a x e => by
  rw [upd_ne (ne_of_none e h)]
  exact e
theorem same_up {H H' : Hp} {p : Addr} {o : HO} (k : Same H H') : Same (upd H p o) (upd H' p o) := fun a x e => by
  by_cases q : a = p
  · subst q
    rw [upd_same] at e ⊢
    exact e
  · rw [upd_ne q] at e ⊢
    exact k a x e
theorem Ext.add {w : Wd} {p : Addr} {o : HO} (k : w.Ok) (h : w.h p = none) : Ext w (w.add p o) :=
  ⟨same_new h, fun _ _ => rfl, fun _ _ => rfl, ⟨k.fb, k.bh.trans (same_new h)⟩⟩
theorem Ext.lay {w : Wd} {p : Addr} {o : HO} (k : w.Ok) (h : w.h p = none) : Ext w (w.lay p o) :=
  ⟨same_new h, fun a ha => upd_ne fun z => ha (z ▸ h), fun a ha => upd_ne fun z => ha (z ▸ h), ⟨same_up k.fb, same_up k.bh⟩⟩
theorem Wd.lay_at {w : Wd} {p : Addr} {o : HO} : (w.lay p o).f p = some o := upd_same
theorem Wd.lay_sf {w : Wd} {p : Addr} {o : HO} (k : w.Ok) (h : w.h p = none) : Same w.f (w.lay p o).f := same_new (Same.back k.fh h)

/-! ### results -/
inductive Kd where
  /-- a new list that nothing else reaches -/
  | fr
  /-- clean: frozen all through, or no object -/
  | cl
  /-- a list that somebody else may change later, not while this def runs; its items are clean -/
  | sh
  /-- a list of this def's own, still changed; its items are clean -/
  | ow
  /-- the script -/
  | sc
  deriving DecidableEq
abbrev Res := Kd × D

def VOk (K : PySem.W.Frag) (w0 w : Wd) (r : Res) (v : V) : Prop :=
  match r.1 with
  | .fr => ∃ p vs ds, r.2 = .list ds ∧ v = .ref p ∧ w0.h p = none ∧ w.h p = some (.lst vs) ∧ w.b p = none ∧ RpA w.f vs ds
  | .cl => Rp w.f v r.2
  | .sh => ∃ p vs ds, r.2 = .list ds ∧ v = .ref p ∧ w.b p = some (.lst vs) ∧ RpA w.f vs ds
  | .ow => ∃ p vs ds, r.2 = .list ds ∧ v = .ref p ∧ w.h p = some (.lst vs) ∧ RpA w.f vs ds
  | .sc => ∃ (p : Addr) (ns : List Int), r.2 = .list (ns.map PyData.int) ∧ v = .ref p ∧ SqL K w.b p (ns.map V.int)
theorem Same.seqL {K : PySem.W.Frag} {H H' : Hp} {p : Addr} {vs : List V} (k : Same H H') (h : SqL K H p vs) : SqL K H' p vs := k.seq h
theorem VOk.mono {K : PySem.W.Frag} {w0 w w' : Wd} {r : Res} {v : V} (o : w.Ok) (e : Ext w w') (h : VOk K w0 w r v) : VOk K w0 w' r v := by
  obtain ⟨k, d⟩ := r
  cases k with
  | fr =>
    obtain ⟨p, vs, ds, h1, h2, h3, h4, h5, h6⟩ := h
    exact ⟨p, vs, ds, h1, h2, h3, e.h _ _ h4, (e.b p (some_ne h4)).trans h5, h6.mono (e.sf o)⟩
  | cl => exact Rp.mono (e.sf o) h
  | sh =>
    obtain ⟨p, vs, ds, h1, h2, h3, h4⟩ := h
    exact ⟨p, vs, ds, h1, h2, e.sb o _ _ h3, h4.mono (e.sf o)⟩
  | ow =>
    obtain ⟨p, vs, ds, h1, h2, h3, h4⟩ := h
    exact ⟨p, vs, ds, h1, h2, e.h _ _ h3, h4.mono (e.sf o)⟩
  | sc =>
    obtain ⟨p, ns, h1, h2, h3⟩ := h
    exact ⟨p, ns, h1, h2, Same.seqL (e.sb o) h3⟩
theorem VOk.early {K : PySem.W.Frag} {w0 w1 w : Wd} {r : Res} {v : V} (k : Same w0.h w1.h) (h : VOk K w1 w r v) : VOk K w0 w r v := by
  obtain ⟨kd, d⟩ := r
  cases kd with
  | fr =>
    obtain ⟨p, vs, ds, h1, h2, h3, h4⟩ := h
    exact ⟨p, vs, ds, h1, h2, Same.back k h3, h4⟩
  | cl => exact h
  | sh => exact h
  | ow => exact h
  | sc => exact h
/-- the datum, where it is clean or may be frozen at once -/
def toCl (r : Res) : Option D :=
  match r.1 with
  | .fr => some r.2
  | .cl => some r.2
  | _ => none
theorem VOk.clean {K : PySem.W.Frag} {w0 w : Wd} {r : Res} {v : V} {d : D} (e : Ext w0 w) (h : VOk K w0 w r v) (c : toCl r = some d) :
    ∃ w', w'.h = w.h ∧ Ext w0 w' ∧ Rp w'.f v d := by
  obtain ⟨k, d'⟩ := r
  cases k with
  | fr =>
    obtain ⟨p, vs, ds, h1, h2, h3, h4, h5, h6⟩ := h
    have ed : d' = d := Option.some.inj c
    have h1 : d' = .list ds := h1
    subst ed
    subst h1 h2
    have nf : w.f p = none := Same.back e.ok.fb h5
    refine ⟨⟨upd w.f p (.lst vs), upd w.b p (.lst vs), w.h⟩, rfl, ⟨e.h, fun a ha => ?_, fun a ha => ?_, ⟨same_up e.ok.fb, fun a x ha => ?_⟩⟩, .lst upd_same (h6.mono (same_new nf))⟩
    · show upd w.f p (.lst vs) a = w0.f a
      rw [upd_ne (show a ≠ p from fun z => ha (z ▸ h3))]
      exact e.f a ha
    · show upd w.b p (.lst vs) a = w0.b a
      rw [upd_ne (show a ≠ p from fun z => ha (z ▸ h3))]
      exact e.b a ha
    · by_cases q : a = p
      · subst q
        have ha : upd w.b a (.lst vs) a = some x := ha
        rw [upd_same] at ha
        rw [← Option.some.inj ha]
        exact h4
      · have ha : upd w.b p (.lst vs) a = some x := ha
        rw [upd_ne q] at ha
        exact e.ok.bh a x ha
  | cl =>
    have ed : d' = d := Option.some.inj c
    subst ed
    exact ⟨w, rfl, e, h⟩
  | sh => cases c
  | ow => cases c
  | sc => cases c
/-- a list that is read -/
theorem VOk.list {K : PySem.W.Frag} {w0 w : Wd} {r : Res} {v : V} {ds : List D} (o : w.Ok) (h : VOk K w0 w r v) (e : r.2 = .list ds) :
    ∃ p vs, v = .ref p ∧ SqL K w.h p vs ∧ RpA w.f vs ds := by
  obtain ⟨k, d⟩ := r
  have e : d = .list ds := e
  subst e
  cases k with
  | fr =>
    obtain ⟨p, vs, ds', h1, h2, h3, h4, h5, h6⟩ := h
    cases h1
    exact ⟨p, vs, h2, SqL.of h4, h6⟩
  | cl =>
    have h : Rp w.f v (.list ds) := h
    cases h with
    | lst e r => exact ⟨_, _, rfl, SqL.of (o.fh _ _ e), r⟩
  | sh =>
    obtain ⟨p, vs, ds', h1, h2, h3, h4⟩ := h
    cases h1
    exact ⟨p, vs, h2, SqL.of (o.bh _ _ h3), h4⟩
  | ow =>
    obtain ⟨p, vs, ds', h1, h2, h3, h4⟩ := h
    cases h1
    exact ⟨p, vs, h2, SqL.of h3, h4⟩
  | sc =>
    obtain ⟨p, ns, h1, h2, h3⟩ := h
    cases h1
    exact ⟨p, ns.map V.int, h2, Same.seqL o.bh h3, RpA.of_ints ns⟩
/-- .. a tracked one (not the script) -/
theorem VOk.tracked {K : PySem.W.Frag} {w0 w : Wd} {r : Res} {v : V} {ds : List D} (o : w.Ok) (h : VOk K w0 w r v) (e : r.2 = .list ds) (n : r.1 ≠ .sc) :
    ∃ p vs, v = .ref p ∧ w.h p = some (.lst vs) ∧ RpA w.f vs ds := by
  obtain ⟨k, d⟩ := r
  have e : d = .list ds := e
  subst e
  cases k with
  | fr =>
    obtain ⟨p, vs, ds', h1, h2, h3, h4, h5, h6⟩ := h
    cases h1
    exact ⟨p, vs, h2, h4, h6⟩
  | cl =>
    have h : Rp w.f v (.list ds) := h
    cases h with
    | lst e r => exact ⟨_, _, rfl, o.fh _ _ e, r⟩
  | sh =>
    obtain ⟨p, vs, ds', h1, h2, h3, h4⟩ := h
    cases h1
    exact ⟨p, vs, h2, o.bh _ _ h3, h4⟩
  | ow =>
    obtain ⟨p, vs, ds', h1, h2, h3, h4⟩ := h
    cases h1
    exact ⟨p, vs, h2, h3, h4⟩
  | sc => exact absurd rfl n
/-- no list: clean -/
theorem VOk.flat {K : PySem.W.Frag} {w0 w : Wd} {r : Res} {v : V} (h : VOk K w0 w r v) (n : ∀ ds, r.2 ≠ .list ds) : Rp w.f v r.2 := by
  obtain ⟨k, d⟩ := r
  cases k with
  | fr =>
    obtain ⟨p, vs, ds, h1, _⟩ := h
    exact absurd h1 (n ds)
  | cl => exact h
  | sh =>
    obtain ⟨p, vs, ds, h1, _⟩ := h
    exact absurd h1 (n ds)
  | ow =>
    obtain ⟨p, vs, ds, h1, _⟩ := h
    exact absurd h1 (n ds)
  | sc =>
    obtain ⟨p, ns, h1, _⟩ := h
    exact absurd h1 (n _)
theorem VOk.int {K : PySem.W.Frag} {w0 w : Wd} {k : Kd} {n : Int} {v : V} (h : VOk K w0 w (k, .int n) v) : v = .int n := by
  have q := h.flat (fun ds z => nomatch z)
  cases q
  rfl
theorem VOk.bool {K : PySem.W.Frag} {w0 w : Wd} {k : Kd} {n : Bool} {v : V} (h : VOk K w0 w (k, .bool n) v) : v = .bl n := by
  have q := h.flat (fun ds z => nomatch z)
  cases q
  rfl
theorem VOk.str {K : PySem.W.Frag} {w0 w : Wd} {k : Kd} {n : Str} {v : V} (h : VOk K w0 w (k, .str n) v) : v = .str n := by
  have q := h.flat (fun ds z => nomatch z)
  cases q
  rfl
theorem VOk.non {K : PySem.W.Frag} {w0 w : Wd} {k : Kd} {v : V} (h : VOk K w0 w (k, .none) v) : v = .non := by
  have q := h.flat (fun ds z => nomatch z)
  cases q
  rfl
theorem VOk.tuple {K : PySem.W.Frag} {w0 w : Wd} {k : Kd} {ds : List D} {v : V} (h : VOk K w0 w (k, .tuple ds) v) : ∃ p vs, v = .ref p ∧ w.f p = some (.tup vs) ∧ RpA w.f vs ds := by
  have q := h.flat (fun ds z => nomatch z)
  cases q with
  | tup e r => exact ⟨_, _, rfl, e, r⟩
/-- any result, as data in all that stands -/
theorem VOk.dp {K : PySem.W.Frag} {w0 w : Wd} {r : Res} {v : V} (o : w.Ok) (h : VOk K w0 w r v) : Dp K w.h v r.2 := by
  by_cases c : ∃ ds, r.2 = .list ds
  · obtain ⟨ds, e⟩ := c
    obtain ⟨p, vs, e1, e2, e3⟩ := h.list o e
    rw [e, e1]
    exact .lst e2 (e3.dp K o.fh)
  · exact (h.flat fun ds e => c ⟨ds, e⟩).dp K o.fh

/-! ### slots -/
inductive Sl where
  | un
  | fz (d : D)
  | ol (ds : List D)
  | sh (ds : List D)
  | sc (ns : List Int)
  | od (t : Bool) (kvs : List (D × D))
abbrev Env' := List Sl
def keyD : Key → D
  | .inl i => .int i
  | .inr z => .str z
def DiOk (w : Wd) (p : Addr) (t : Bool) (kvs : List (D × D)) : Prop :=
  match t with
  | false => ∃ ks : List (Key × V), w.h p = some (.dK ks) ∧ Paired (fun x (y : D × D) => keyD x.1 = y.1 ∧ Rp w.f x.2 y.2) ks kvs
  | true => ∃ ks : List (List Key × V), w.h p = some (.dT ks) ∧ Paired (fun x (y : D × D) => PyData.tuple (x.1.map keyD) = y.1 ∧ Rp w.f x.2 y.2) ks kvs
def SlOk (K : PySem.W.Frag) (w : Wd) (s : Sl) (v : Option V) : Prop :=
  match s with
  | .un => True
  | .fz d => ∃ x, v = some x ∧ Rp w.f x d
  | .ol ds => ∃ p vs, v = some (.ref p) ∧ w.h p = some (.lst vs) ∧ w.b p = none ∧ RpA w.f vs ds
  | .sh ds => ∃ p vs, v = some (.ref p) ∧ w.b p = some (.lst vs) ∧ RpA w.f vs ds
  | .sc ns => ∃ p, v = some (.ref p) ∧ SqL K w.b p (ns.map V.int)
  | .od t kvs => ∃ p, v = some (.ref p) ∧ w.b p = none ∧ DiOk w p t kvs
def owned : Sl → Bool
  | .ol _ => true
  | .od _ _ => true
  | _ => false
theorem Paired.imp {α β : Type} {F G : α → β → Prop} (f : ∀ a b, F a b → G a b) {l : List α} {m : List β} (h : Paired F l m) : Paired G l m := Paired.mapP h f
theorem DiOk.grow {w w' : Wd} {p : Addr} {t : Bool} {kvs : List (D × D)} (h : DiOk w p t kvs) (e : w'.h p = w.h p) (k : Same w.f w'.f) : DiOk w' p t kvs := by
  cases t with
  | false =>
    obtain ⟨ks, h1, h2⟩ := h
    exact ⟨ks, e.trans h1, Paired.imp (fun a b q => ⟨q.1, q.2.mono k⟩) h2⟩
  | true =>
    obtain ⟨ks, h1, h2⟩ := h
    exact ⟨ks, e.trans h1, Paired.imp (fun a b q => ⟨q.1, q.2.mono k⟩) h2⟩
theorem DiOk.there {w : Wd} {p : Addr} {t : Bool} {kvs : List (D × D)} (h : DiOk w p t kvs) : w.h p ≠ none := by
  cases t with
  | false =>
    obtain ⟨ks, h1, _⟩ := h
    exact some_ne h1
  | true =>
    obtain ⟨ks, h1, _⟩ := h
    exact some_ne h1
theorem SlOk.grow {K : PySem.W.Frag} {w w' : Wd} {s : Sl} {v : Option V} (h : SlOk K w s v) (kf : Same w.f w'.f) (kb : Same w.b w'.b)
    (ko : ∀ p, owned s = true → v = some (.ref p) → w.h p ≠ none → w.b p = none → w'.h p = w.h p ∧ w'.b p = none) : SlOk K w' s v := by
  cases s with
  | un => exact True.intro
  | fz d =>
    obtain ⟨x, h1, h2⟩ := h
    exact ⟨x, h1, h2.mono kf⟩
  | ol ds =>
    obtain ⟨p, vs, h1, h2, h3, h4⟩ := h
    obtain ⟨a, b⟩ := ko p rfl h1 (some_ne h2) h3
    exact ⟨p, vs, h1, a.trans h2, b, h4.mono kf⟩
  | sh ds =>
    obtain ⟨p, vs, h1, h2, h3⟩ := h
    exact ⟨p, vs, h1, kb _ _ h2, h3.mono kf⟩
  | sc ns =>
    obtain ⟨p, h1, h2⟩ := h
    exact ⟨p, h1, Same.seqL kb h2⟩
  | od t kvs =>
    obtain ⟨p, h1, h2, h3⟩ := h
    obtain ⟨a, b⟩ := ko p rfl h1 h3.there h2
    exact ⟨p, h1, b, h3.grow a kf⟩
theorem SlOk.ext {K : PySem.W.Frag} {w w' : Wd} {s : Sl} {v : Option V} (o : w.Ok) (e : Ext w w') (h : SlOk K w s v) : SlOk K w' s v :=
  h.grow (e.sf o) (e.sb o) fun p _ _ hp hb => ⟨by
    cases q : w.h p with
    | none => exact absurd q hp
    | some x => exact e.h p x q, (e.b p hp).trans hb⟩

/-- where a def began, what is held fast -/
structure Bs where
  w : Wd
  pf : Hp
  pb : Hp
structure SR (K : PySem.W.Frag) (B : Bs) (w : Wd) (ρ : Env') (σ : St) : Prop where
  ok : w.Ok
  bb : B.w.b = B.w.h
  ext : Ext B.w w
  pf : Same B.pf w.f
  pb : Same B.pb w.b
  len : ρ.length = σ.length
  sl : ∀ (i : Nat) (s : Sl), ρ[i]? = some s → ∃ v, σ[i]? = some v ∧ SlOk K w s v
  ne : ∀ (i j : Nat) (s t : Sl) (p : Addr), ρ[i]? = some s → ρ[j]? = some t → owned s = true → owned t = true → σ[i]? = some (some (.ref p)) → σ[j]? = some (some (.ref p)) → i = j
theorem SR.grow {K : PySem.W.Frag} {B : Bs} {w w' : Wd} {ρ : Env'} {σ : St} (s : SR K B w ρ σ) (e : Ext w w') : SR K B w' ρ σ :=
  ⟨e.ok, s.bb, s.ext.trans e, s.pf.trans (e.sf s.ok), s.pb.trans (e.sb s.ok), s.len, fun i x h => by
    obtain ⟨v, h1, h2⟩ := s.sl i x h
    exact ⟨v, h1, h2.ext s.ok e⟩, s.ne⟩
theorem SR.at {K : PySem.W.Frag} {B : Bs} {w : Wd} {ρ : Env'} {σ : St} {i : Nat} {x : Sl} (s : SR K B w ρ σ) (h : ρ[i]? = some x) : ∃ v, σ[i]? = some v ∧ SlOk K w x v := s.sl i x h
theorem SR.lt {K : PySem.W.Frag} {B : Bs} {w : Wd} {ρ : Env'} {σ : St} {i : Nat} (s : SR K B w ρ σ) (h : i < ρ.length) : i < σ.length := s.len ▸ h
/-- what is new since B's beginning is none of B's things -/
theorem SR.newB {K : PySem.W.Frag} {B : Bs} {w : Wd} {ρ : Env'} {σ : St} {p : Addr} (s : SR K B w ρ σ) (h : w.b p = none) : B.w.h p = none := by
  cases q : B.w.h p with
  | none => rfl
  | some x =>
    have e := s.ext.b p (some_ne q)
    rw [s.bb, q] at e
    rw [h] at e
    cases e
/-- a slot is set to a thing that is not owned -/
theorem SR.put {K : PySem.W.Frag} {B : Bs} {w : Wd} {ρ : Env'} {σ : St} {i : Nat} {x : Sl} {v : V} (s : SR K B w ρ σ) (hx : SlOk K w x (some v))
    (ho : owned x = true → ∀ (j : Nat) (y : Sl) (q : Addr), j ≠ i → ρ[j]? = some y → owned y = true → σ[j]? = some (some (.ref q)) → v ≠ .ref q) : SR K B w (ρ.set i x) (σ.set i (some v)) := by
  refine ⟨s.ok, s.bb, s.ext, s.pf, s.pb, by rw [List.length_set, List.length_set, s.len], fun j y h => ?_, fun a b y z p h1 h2 h3 h4 h5 h6 => ?_⟩
  · by_cases e : i = j
    · subst e
      have hl : i < ρ.length := by
        have := (List.getElem?_eq_some_iff.mp h).1
        rwa [List.length_set] at this
      rw [List.getElem?_set_self hl] at h
      have e1 := Option.some.inj h
      subst e1
      exact ⟨some v, List.getElem?_set_self (s.lt hl), hx⟩
    · rw [List.getElem?_set_ne e] at h
      obtain ⟨u, h1, h2⟩ := s.sl j y h
      exact ⟨u, by rw [List.getElem?_set_ne e]; exact h1, h2⟩
  · have hit : ∀ {k : Nat} {y : Sl}, k = i → (ρ.set i x)[k]? = some y → y = x := fun {k y} e h => by
      subst e
      have hl : k < ρ.length := by
        have := (List.getElem?_eq_some_iff.mp h).1
        rwa [List.length_set] at this
      rw [List.getElem?_set_self hl] at h
      exact (Option.some.inj h).symm
    have hitv : ∀ {k : Nat}, k = i → (σ.set i (some v))[k]? = some (some (.ref p)) → v = .ref p := fun {k} e h => by
      subst e
      have hl : k < σ.length := by
        have := (List.getElem?_eq_some_iff.mp h).1
        rwa [List.length_set] at this
      rw [List.getElem?_set_self hl] at h
      exact Option.some.inj (Option.some.inj h)
    by_cases ea : a = i
    · by_cases eb : b = i
      · rw [ea, eb]
      · rw [List.getElem?_set_ne (Ne.symm eb)] at h2 h6
        exact absurd (hitv ea h5) (ho (hit ea h1 ▸ h3) b z p eb h2 h4 h6)
    · by_cases eb : b = i
      · rw [List.getElem?_set_ne (Ne.symm ea)] at h1 h5
        exact absurd (hitv eb h6) (ho (hit eb h2 ▸ h4) a y p ea h1 h3 h5)
      · rw [List.getElem?_set_ne (Ne.symm ea)] at h1 h5
        rw [List.getElem?_set_ne (Ne.symm eb)] at h2 h6
        exact s.ne a b y z p h1 h2 h3 h4 h5 h6
theorem SR.putF {K : PySem.W.Frag} {B : Bs} {w : Wd} {ρ : Env'} {σ : St} {i : Nat} {d : D} {v : V} (s : SR K B w ρ σ) (hx : Rp w.f v d) : SR K B w (ρ.set i (.fz d)) (σ.set i (some v)) :=
  s.put ⟨v, rfl, hx⟩ fun z => nomatch z
/-- a slot's sort is changed, its value stays -/
theorem SR.turn {K : PySem.W.Frag} {B : Bs} {w : Wd} {ρ : Env'} {σ : St} {i : Nat} {x : Sl} (s : SR K B w ρ σ) (hx : ∀ v, σ[i]? = some v → SlOk K w x v) (ho : owned x = true → ∀ y, ρ[i]? = some y → owned y = true) : SR K B w (ρ.set i x) σ := by
  refine ⟨s.ok, s.bb, s.ext, s.pf, s.pb, by rw [List.length_set, s.len], fun j y h => ?_, fun a b y z p h1 h2 h3 h4 h5 h6 => ?_⟩
  · by_cases e : i = j
    · subst e
      have hl : i < ρ.length := by
        have := (List.getElem?_eq_some_iff.mp h).1
        rwa [List.length_set] at this
      rw [List.getElem?_set_self hl] at h
      have e1 := Option.some.inj h
      subst e1
      obtain ⟨u, h1, _⟩ := s.sl i ρ[i] (List.getElem?_eq_getElem hl)
      exact ⟨u, h1, hx u h1⟩
    · rw [List.getElem?_set_ne e] at h
      exact s.sl j y h
  · have hit : ∀ {k : Nat} {y : Sl}, k = i → (ρ.set i x)[k]? = some y → owned y = true → ∃ u, ρ[k]? = some u ∧ owned u = true := fun {k y} e h hy => by
      subst e
      have hl : k < ρ.length := by
        have := (List.getElem?_eq_some_iff.mp h).1
        rwa [List.length_set] at this
      rw [List.getElem?_set_self hl] at h
      have e1 := Option.some.inj h
      subst e1
      exact ⟨_, List.getElem?_eq_getElem hl, ho hy _ (List.getElem?_eq_getElem hl)⟩
    have all : ∀ {k : Nat} {y : Sl}, (ρ.set i x)[k]? = some y → owned y = true → ∃ u, ρ[k]? = some u ∧ owned u = true := fun {k y} h hy => by
      by_cases e : k = i
      · exact hit e h hy
      · rw [List.getElem?_set_ne (Ne.symm e)] at h
        exact ⟨y, h, hy⟩
    obtain ⟨u1, q1, o1⟩ := all h1 h3
    obtain ⟨u2, q2, o2⟩ := all h2 h4
    exact s.ne a b u1 u2 p q1 q2 o1 o2 h5 h6
/-- what stands now is held fast -/
theorem SR.hold {K : PySem.W.Frag} {B : Bs} {w : Wd} {ρ : Env'} {σ : St} (s : SR K B w ρ σ) : SR K ⟨B.w, w.f, w.b⟩ w ρ σ := ⟨s.ok, s.bb, s.ext, Same.refl _, Same.refl _, s.len, s.sl, s.ne⟩
theorem SR.loose {K : PySem.W.Frag} {B : Bs} {w w' : Wd} {ρ ρ' : Env'} {σ σ' : St} (s : SR K B w ρ σ) (t : SR K ⟨B.w, w.f, w.b⟩ w' ρ' σ') : SR K B w' ρ' σ' :=
  ⟨t.ok, s.bb, t.ext, s.pf.trans t.pf, s.pb.trans t.pb, t.len, t.sl, t.ne⟩
/-- an owned list is frozen for good -/
theorem SR.freeze {K : PySem.W.Frag} {B : Bs} {w : Wd} {ρ : Env'} {σ : St} {i : Nat} {ds : List D} (s : SR K B w ρ σ) (h : ρ[i]? = some (.ol ds)) :
    ∃ w', w'.h = w.h ∧ SR K B w' (ρ.set i (.fz (.list ds))) σ := by
  obtain ⟨v, hv, p, vs, e1, e2, e3, e4⟩ := s.sl i _ h
  subst e1
  have nB : B.w.h p = none := s.newB e3
  have nf : w.f p = none := Same.back s.ok.fb e3
  have hl : i < ρ.length := (List.getElem?_eq_some_iff.mp h).1
  refine ⟨⟨upd w.f p (.lst vs), upd w.b p (.lst vs), w.h⟩, rfl, ⟨?_, s.bb, ⟨s.ext.h, fun a ha => ?_, fun a ha => ?_, ?_⟩, s.pf.trans (same_new nf), s.pb.trans (same_new e3), by rw [List.length_set, s.len], fun j y hj => ?_, fun a b y z q h1 h2 h3 h4 h5 h6 => ?_⟩⟩
  · refine ⟨same_up s.ok.fb, fun a x ha => ?_⟩
    by_cases q : a = p
    · subst q
      have ha : upd w.b a (.lst vs) a = some x := ha
      rw [upd_same] at ha
      rw [← Option.some.inj ha]
      exact e2
    · have ha : upd w.b p (.lst vs) a = some x := ha
      rw [upd_ne q] at ha
      exact s.ok.bh a x ha
  · show upd w.f p (.lst vs) a = _
    rw [upd_ne (show a ≠ p from fun z => ha (z ▸ nB))]
    exact s.ext.f a ha
  · show upd w.b p (.lst vs) a = _
    rw [upd_ne (show a ≠ p from fun z => ha (z ▸ nB))]
    exact s.ext.b a ha
  · refine ⟨same_up s.ok.fb, fun a x ha => ?_⟩
    by_cases q : a = p
    · subst q
      have ha : upd w.b a (.lst vs) a = some x := ha
      rw [upd_same] at ha
      rw [← Option.some.inj ha]
      exact e2
    · have ha : upd w.b p (.lst vs) a = some x := ha
      rw [upd_ne q] at ha
      exact s.ok.bh a x ha
  · by_cases e : i = j
    · subst e
      rw [List.getElem?_set_self hl] at hj
      have e1 := Option.some.inj hj
      subst e1
      exact ⟨_, hv, .ref p, rfl, .lst upd_same (e4.mono (same_new nf))⟩
    · rw [List.getElem?_set_ne e] at hj
      obtain ⟨u, g1, g2⟩ := s.sl j y hj
      refine ⟨u, g1, g2.grow (same_new nf) (same_new e3) fun q hq hu hq1 hq2 => ⟨rfl, ?_⟩⟩
      subst hu
      show upd w.b p (.lst vs) q = none
      rw [upd_ne (show q ≠ p from fun z => e (s.ne i j _ y q h hj rfl hq (z ▸ hv) g1))]
      exact hq2
  · have out : ∀ {k : Nat} {y : Sl}, (ρ.set i (.fz (.list ds)))[k]? = some y → owned y = true → ρ[k]? = some y := fun {k y} g ho => by
      by_cases e : i = k
      · subst e
        rw [List.getElem?_set_self hl] at g
        have e1 := Option.some.inj g
        subst e1
        cases ho
      · rwa [List.getElem?_set_ne e] at g
    exact s.ne a b y z q (out h1 h3) (out h2 h4) h3 h4 h5 h6
/-- an owned thing is changed -/
theorem SR.change {K : PySem.W.Frag} {B : Bs} {w : Wd} {ρ : Env'} {σ : St} {i : Nat} {x y : Sl} {p : Addr} {o : HO} (s : SR K B w ρ σ) (h : ρ[i]? = some x) (hx : owned x = true) (hv : σ[i]? = some (some (.ref p))) (hb : w.b p = none)
    (hy : SlOk K ⟨w.f, w.b, upd w.h p o⟩ y (some (.ref p))) : SR K B ⟨w.f, w.b, upd w.h p o⟩ (ρ.set i y) σ := by
  have nB : B.w.h p = none := s.newB hb
  have hl : i < ρ.length := (List.getElem?_eq_some_iff.mp h).1
  have okw : Wd.Ok ⟨w.f, w.b, upd w.h p o⟩ := ⟨s.ok.fb, fun a z ha => by
    have ha : w.b a = some z := ha
    show upd w.h p o a = some z
    rw [upd_ne (ne_of_none ha hb)]
    exact s.ok.bh a z ha⟩
  refine ⟨okw, s.bb, ⟨fun a z ha => ?_, s.ext.f, s.ext.b, okw⟩, s.pf, s.pb, by rw [List.length_set, s.len], fun j u hj => ?_, fun a b u z q h1 h2 h3 h4 h5 h6 => ?_⟩
  · show upd w.h p o a = some z
    rw [upd_ne (ne_of_none ha nB)]
    exact s.ext.h a z ha
  · by_cases e : i = j
    · subst e
      rw [List.getElem?_set_self hl] at hj
      have e1 := Option.some.inj hj
      subst e1
      exact ⟨_, hv, hy⟩
    · rw [List.getElem?_set_ne e] at hj
      obtain ⟨g, g1, g2⟩ := s.sl j u hj
      refine ⟨g, g1, g2.grow (Same.refl _) (Same.refl _) fun q hq hu hq1 hq2 => ⟨?_, hq2⟩⟩
      subst hu
      show upd w.h p o q = w.h q
      exact upd_ne fun z => e (s.ne i j _ u q h hj hx hq (z ▸ hv) g1)
  · have out : ∀ {k : Nat} {u : Sl}, (ρ.set i y)[k]? = some u → owned u = true → ∃ t, ρ[k]? = some t ∧ owned t = true := fun {k u} g ho => by
      by_cases e : i = k
      · subst e
        exact ⟨x, h, hx⟩
      · rw [List.getElem?_set_ne e] at g
        exact ⟨u, g, ho⟩
    obtain ⟨u1, q1, o1⟩ := out h1 h3
    obtain ⟨u2, q2, o2⟩ := out h2 h4
    exact s.ne a b u1 u2 q q1 q2 o1 o2 h5 h6
end Ir

set_option Elab.async false
set_option linter.all false
set_option maxRecDepth 100000
/-! Ir2: the small language and what it means over data. -/
namespace Ir
open PySem
open L2

inductive Bo where
  | add | sub | mul | fdiv | mod | pow | shl | shr
  deriving DecidableEq
inductive Co where
  | eq | ne | lt | le | gt | ge | isin | notin
  deriving DecidableEq
inductive Bi where
  | len | int | abs | tuple | list | sorted | sum | min2 | max2 | max1 | all | repr
  deriving DecidableEq
inductive Ty where
  | bool | int | str | list | tuple
  deriving DecidableEq
inductive Cn where
  | non | bl (k : Bool) | int (n : Int) | str (z : Str)
def Cn.d : Cn → D
  | .non => .none
  | .bl k => .bool k
  | .int n => .int n
  | .str z => .str z
mutual
inductive Ex where
  | var (i : Nat)
  | cst (c : Cn)
  | bin (o : Bo) (a b : Ex)
  | cmp (o : Co) (a b : Ex)
  | isn (neg : Bool) (a : Ex)
  | neg (a : Ex)
  | not (a : Ex)
  | and (a b : Ex)
  | or (a b : Ex)
  | ite (c a b : Ex)
  | ix (a b : Ex)
  | sl (a : Ex) (lo hi : Exs)
  | lst (as : Exs)
  | tup (as : Exs)
  | call (f : Nat) (as : Exs)
  | blt (f : Bi) (as : Exs)
  | trng (a : Ex)
  | isi (a : Ex) (ts : List Ty)
  | lc (j : Nat) (s : Sr) (c : Exs) (e : Ex)
  | tru (a : Ex)
inductive Exs where
  | nil
  | cons (e : Ex) (es : Exs)
inductive Sr where
  | rng (as : Exs)
  | of (e : Ex)
end
mutual
inductive S where
  | asg (i : Nat) (e : Ex)
  | asgU (l : List Nat) (e : Ex)
  | aug (i : Nat) (e : Ex)
  | app (i : Nat) (e : Ex)
  | appPop (i j : Nat) (e : Ex)
  | pop (i : Nat)
  | setx (i : Nat) (a e : Ex)
  | dnew (t : Bool) (i : Nat) (kvs : Exs)
  | dcomp (t : Bool) (i j : Nat) (s : Sr) (k v : Ex)
  | iff (c : Ex) (a b : Ss)
  | each (j : Nat) (s : Sr) (body : Ss)
  | whl (c : Ex) (body : Ss)
  | ret (e : Ex)
  | retN | brk | cnt | pas
  | drop (e : Ex)
  | frz (i : Nat)
inductive Ss where
  | nil
  | cons (s : S) (ss : Ss)
end

/-! ### operations on data -/
noncomputable def lookD (kvs : List (D × D)) (k : D) : Option D := (kvs.find? fun e => @decide (e.1 = k) (Classical.propDecidable _)).map (·.2)
noncomputable def putD (kvs : List (D × D)) (k v : D) : List (D × D) :=
  @ite _ (∃ e ∈ kvs, e.1 = k) (Classical.propDecidable _) (kvs.map fun e => @ite _ (e.1 = k) (Classical.propDecidable _) (e.1, v) e) (kvs ++ [(k, v)])
def isKey : D → Bool
  | .int _ => true
  | .str _ => true
  | _ => false
def keyOk (t : Bool) (d : D) : Bool :=
  match t, d with
  | false, .int _ => true
  | false, .str _ => true
  | true, .tuple ds => ds.all isKey
  | _, _ => false
def cutG {α : Type} (xs : List α) (lo hi : Option Int) : List α := (xs.drop (HT.sIx xs.length 0 lo)).take (HT.sIx xs.length xs.length hi - HT.sIx xs.length 0 lo)
abbrev Post := Res → Prop
def boolQ (Q : Bool → Prop) : Post := fun r => ∃ k, r.2 = .bool k ∧ Q k
def MulOk (i j : Int) : Prop := CMul i j ∨ CMulW i j
def opB (o : Bo) (x y : Res) (Q : Post) : Prop :=
  match o, x.2, y.2 with
  | .add, .int i, .int j => Q (.cl, .int (i + j))
  | .add, .str s, .str t => s.length + t.length ≤ sizeLine ∧ Q (.cl, .str (s ++ t))
  | .add, .list a, .list b => x.1 ≠ .sc ∧ y.1 ≠ .sc ∧ a.length + b.length ≤ sizeLine ∧ Q (.fr, .list (a ++ b))
  | .add, .tuple a, .tuple b => a.length + b.length ≤ sizeLine ∧ Q (.cl, .tuple (a ++ b))
  | .sub, .int i, .int j => Q (.cl, .int (i - j))
  | .mul, .int i, .int j => MulOk i j ∧ Q (.cl, .int (i * j))
  | .mul, .list a, .int k => x.1 ≠ .sc ∧ 0 ≤ k ∧ k < 2 ^ 63 ∧ a.length * k.toNat ≤ sizeLine ∧ Q (.fr, .list (List.replicate k.toNat a).flatten)
  | .fdiv, .int i, .int j => CDivW i j ∧ Q (.cl, .int (i / j))
  | .mod, .int i, .int j => 0 < j ∧ Q (.cl, .int (i % j))
  | .pow, .int i, .int j => CPow i j ∧ Q (.cl, .int (i ^ j.toNat))
  | .shl, .int i, .int j => CPow i j ∧ Q (.cl, .int (i * 2 ^ j.toNat))
  | .shr, .int i, .int j => 0 ≤ j ∧ Q (.cl, .int (i / 2 ^ j.toNat))
  | _, _, _ => False
def opC (o : Co) (x y : Res) (Q : Post) : Prop :=
  match o, x.2, y.2 with
  | .eq, .int i, .int j => Q (.cl, .bool (decide (i = j)))
  | .ne, .int i, .int j => Q (.cl, .bool (!decide (i = j)))
  | .eq, .str i, .str j => Q (.cl, .bool (decide (i = j)))
  | .ne, .str i, .str j => Q (.cl, .bool (!decide (i = j)))
  | .eq, a, b => SeqAt.shaped a = true ∧ SeqAt.shaped b = true ∧ Q (.cl, .bool (PyData.eqv a b))
  | .ne, a, b => SeqAt.shaped a = true ∧ SeqAt.shaped b = true ∧ Q (.cl, .bool (!PyData.eqv a b))
  | .lt, .int i, .int j => Q (.cl, .bool (decide (i < j)))
  | .le, .int i, .int j => Q (.cl, .bool (decide (i ≤ j)))
  | .gt, .int i, .int j => Q (.cl, .bool (decide (j < i)))
  | .ge, .int i, .int j => Q (.cl, .bool (decide (j ≤ i)))
  | .isin, a, .list ds => SeqAt.shaped a = true ∧ SeqAt.shaped (.list ds) = true ∧ Q (.cl, .bool (ds.any fun z => PyData.eqv z a))
  | .notin, a, .list ds => SeqAt.shaped a = true ∧ SeqAt.shaped (.list ds) = true ∧ Q (.cl, .bool (!ds.any fun z => PyData.eqv z a))
  | _, _, _ => False
/-- in, not in of a dict of the def's own -/
def opCd (o : Co) (t : Bool) (kvs : List (D × D)) (x : Res) (Q : Post) : Prop :=
  match o with
  | .isin => x.1 = .cl ∧ keyOk t x.2 = true ∧ Q (.cl, .bool (lookD kvs x.2).isSome)
  | .notin => x.1 = .cl ∧ keyOk t x.2 = true ∧ Q (.cl, .bool (!(lookD kvs x.2).isSome))
  | _ => False
def opIx (x y : Res) (Q : Post) : Prop :=
  match x.2, y.2 with
  | .list ds, .int i => ∃ d, atI ds i = some d ∧ Q (.cl, d)
  | .tuple ds, .int i => ∃ d, atI ds i = some d ∧ Q (.cl, d)
  | _, _ => False
def opIxd (t : Bool) (kvs : List (D × D)) (y : Res) (Q : Post) : Prop := y.1 = .cl ∧ keyOk t y.2 = true ∧ ∃ d, lookD kvs y.2 = some d ∧ Q (.cl, d)
def optI (rs : List Res) : Option (Option Int) :=
  match rs with
  | [] => some none
  | [(_, .int i)] => some (some i)
  | _ => none
def opSl (x : Res) (lo hi : Option Int) (Q : Post) : Prop :=
  match x.2 with
  | .list ds => Q (.fr, .list (cutG ds lo hi))
  | .tuple ds => Q (.cl, .tuple (cutG ds lo hi))
  | _ => False
def truth : D → Bool
  | .none => false
  | .bool b => b
  | .int i => i != 0
  | .list ds => !ds.isEmpty
  | .tuple ds => !ds.isEmpty
  | .str z => (z.length : Int) != 0
  | .dict _ => false
def tyOf : D → Option Ty
  | .bool _ => some .bool
  | .int _ => some .int
  | .str _ => some .str
  | .list _ => some .list
  | .tuple _ => some .tuple
  | _ => none
def isTy (d : D) (t : Ty) : Bool :=
  match tyOf d with
  | some u => decide (u = t) || (decide (u = .bool) && decide (t = .int))
  | none => false
def allCl : List Res → Option (List D)
  | [] => some []
  | r :: rs => match toCl r, allCl rs with
    | some d, some ds => some (d :: ds)
    | _, _ => none
def lexLe : List Int → List Int → Bool := fun a b => !HT.lexLt b a
def encI (ns : List Int) : D := .tuple (ns.map .int)
def bi (f : Bi) (rs : List Res) (Q : Post) : Prop :=
  match f, rs with
  | .len, [r] => (match r.2 with
    | .list ds => Q (.cl, .int ds.length)
    | .tuple ds => Q (.cl, .int ds.length)
    | _ => False)
  | .int, [r] => (match r.2 with
    | .int i => Q (.cl, .int i)
    | .bool b => Q (.cl, .int (if b then 1 else 0))
    | _ => False)
  | .abs, [r] => (match r.2 with
    | .int i => Q (.cl, .int (if i < 0 then -i else i))
    | _ => False)
  | .tuple, [r] => (match r.2 with
    | .list ds => Q (.cl, .tuple ds)
    | .tuple ds => Q (.cl, .tuple ds)
    | _ => False)
  | .list, [r] => (match r.2 with
    | .list ds => Q (.fr, .list ds)
    | .tuple ds => Q (.fr, .list ds)
    | _ => False)
  | .sum, [r] => ∃ ns : List Int, r.2 = .list (ns.map .int) ∧ Q (.cl, .int ns.sum)
  | .max1, [r] => ∃ ns : List Int, r.2 = .list (ns.map .int) ∧ ns ≠ [] ∧ ∀ m ∈ ns, (∀ y ∈ ns, y ≤ m) → Q (.cl, .int m)
  | .min2, [a, b] => ∃ i j, a.2 = .int i ∧ b.2 = .int j ∧ Q (.cl, .int (if j < i then j else i))
  | .max2, [a, b] => ∃ i j, a.2 = .int i ∧ b.2 = .int j ∧ Q (.cl, .int (if j > i then j else i))
  | .all, [r] => ∃ bs : List Bool, r.2 = .list (bs.map .bool) ∧ Q (.cl, .bool (bs.all id))
  | .sorted, [r] => ∃ (ns : List (List Int)) (n : Nat), r.2 = .list (ns.map encI) ∧ 1 ≤ n ∧ (∀ m ∈ ns, m.length = n) ∧ ∀ ms : List (List Int), ms.Perm ns → ms.Pairwise (fun a b => lexLe a b = true) → Q (.fr, .list (ms.map encI))
  | .repr, [r] => r.2.showable = true ∧ r.2.hasDict = false ∧ PyProof.Rows.isDisplay r.2 = true ∧ r.2.depth ≤ 60 ∧ r.2.shown.length ≤ sizeLine ∧ Q (.cl, .str r.2.shown)
  | _, _ => False
inductive Arg where
  | cl (d : D)
  | sh (ds : List D)
  | sc (ns : List Int)
def argOk (r : Res) (a : Arg) : Prop :=
  match a with
  | .cl d => toCl r = some d
  | .sh ds => r.1 ≠ .sc ∧ r.2 = .list ds
  | .sc ns => r.1 = .sc ∧ r.2 = .list (ns.map .int)
def argsOk : List Res → List Arg → Prop
  | [], [] => True
  | r :: rs, a :: as => argOk r a ∧ argsOk rs as
  | _, _ => False
/-- what a def promises: of its arguments, of what may be wanted of its result -/
abbrev Spc := List Arg → Post → Prop
def odAt (e : Ex) (ρ : Env') : Option (Bool × List (D × D)) :=
  match e with
  | .var i => (match ρ[i]? with
    | some (.od t kvs) => some (t, kvs)
    | _ => none)
  | _ => none
def rngQ (Q : Kd → List D → Prop) (rs : List Res) : Prop :=
  match rs with
  | [(_, .int n)] => -(2 ^ 62) ≤ n ∧ n < 2 ^ 62 ∧ Q .cl ((List.range n.toNat).map fun k : Nat => PyData.int (k : Int))
  | [(_, .int m), (_, .int n)] => -(2 ^ 62) ≤ m ∧ m < 2 ^ 62 ∧ -(2 ^ 62) ≤ n ∧ n < 2 ^ 62 ∧ Q .cl ((List.range (n - m).toNat).map fun k : Nat => PyData.int (m + (k : Int)))
  | _ => False
def ofQ (Q : Kd → List D → Prop) : Post := fun r =>
  match r.2 with
  | .list ds => Q r.1 ds
  | .tuple ds => Q .cl ds
  | _ => False
/-- a comprehension's list: what is made so far, then the rest -/
def lcW (C : D → (Bool → Prop) → Prop) (F : D → Post → Prop) (Q : Post) : List D → List D → Prop
  | [], acc => Q (.fr, .list acc)
  | d :: ds, acc => acc.length < sizeLine ∧ C d fun k => if k = true then F d fun r => ∃ x, toCl r = some x ∧ lcW C F Q ds (acc ++ [x]) else lcW C F Q ds acc
/-- a dict comprehension's pairs -/
def dcW (K V : D → Post → Prop) (t : Bool) (Q : List (D × D) → Prop) : List D → List (D × D) → Prop
  | [], acc => Q acc
  | d :: ds, acc => acc.length < sizeLine ∧ K d fun k => k.1 = .cl ∧ keyOk t k.2 = true ∧ V d fun v => ∃ x, toCl v = some x ∧ dcW K V t Q ds (putD acc k.2 x)

/-! ### expressions -/
mutual
def E (Γ : List Spc) : Ex → Env' → Post → Prop
  | .var i, ρ, Q => (match ρ[i]? with
    | some (.fz d) => Q (.cl, d)
    | some (.ol ds) => Q (.ow, .list ds)
    | some (.sh ds) => Q (.sh, .list ds)
    | some (.sc ns) => Q (.sc, .list (ns.map .int))
    | _ => False)
  | .cst c, _, Q => Q (.cl, c.d)
  | .bin o a b, ρ, Q => E Γ a ρ fun x => E Γ b ρ fun y => opB o x y Q
  | .cmp o a b, ρ, Q => E Γ a ρ fun x => (match odAt b ρ with
    | some (t, kvs) => opCd o t kvs x Q
    | none => E Γ b ρ fun y => opC o x y Q)
  | .isn neg a, ρ, Q => E Γ a ρ fun x => (match x.2 with
    | .none => Q (.cl, .bool (!neg))
    | _ => Q (.cl, .bool neg))
  | .neg a, ρ, Q => E Γ a ρ fun x => ∃ n, x.2 = .int n ∧ Q (.cl, .int (-n))
  | .not a, ρ, Q => E Γ a ρ (boolQ fun k => Q (.cl, .bool (!k)))
  | .and a b, ρ, Q => E Γ a ρ (boolQ fun k => if k = true then E Γ b ρ Q else Q (.cl, .bool false))
  | .or a b, ρ, Q => E Γ a ρ (boolQ fun k => if k = true then Q (.cl, .bool true) else E Γ b ρ Q)
  | .ite c a b, ρ, Q => E Γ c ρ (boolQ fun k => if k = true then E Γ a ρ Q else E Γ b ρ Q)
  | .ix a b, ρ, Q => (match odAt a ρ with
    | some (t, kvs) => E Γ b ρ fun y => opIxd t kvs y Q
    | none => E Γ a ρ fun x => E Γ b ρ fun y => opIx x y Q)
  | .sl a lo hi, ρ, Q => E Γ a ρ fun x => Es Γ lo ρ fun l => ∃ o, optI l = some o ∧ Es Γ hi ρ fun h => ∃ u, optI h = some u ∧ opSl x o u Q
  | .lst as, ρ, Q => Es Γ as ρ fun rs => ∃ ds, allCl rs = some ds ∧ ds.length ≤ sizeLine ∧ Q (.fr, .list ds)
  | .tup as, ρ, Q => Es Γ as ρ fun rs => ∃ ds, allCl rs = some ds ∧ ds.length ≤ sizeLine ∧ Q (.cl, .tuple ds)
  | .call f as, ρ, Q => Es Γ as ρ fun rs => ∃ T as' R, Γ[f]? = some T ∧ argsOk rs as' ∧ T as' R ∧ ∀ r, R r → Q r
  | .blt f as, ρ, Q => Es Γ as ρ fun rs => bi f rs Q
  | .trng a, ρ, Q => E Γ a ρ fun x => ∃ n, x.2 = .int n ∧ 0 ≤ n ∧ n ≤ 1000000 ∧ Q (.cl, .tuple ((List.range n.toNat).map fun k : Nat => PyData.int (k : Int)))
  | .isi a ts, ρ, Q => E Γ a ρ fun x => Q (.cl, .bool (ts.any fun t => isTy x.2 t))
  | .lc j s c e, ρ, Q => srcW Γ s ρ fun _ ds => lcW (fun d P => cnd Γ c (ρ.set j (.fz d)) P) (fun d P => E Γ e (ρ.set j (.fz d)) P) Q ds []
  | .tru a, ρ, Q => E Γ a ρ fun x => (∀ z, x.2 = .str z → z.length ≤ sizeLine) ∧ (∀ z, x.2 ≠ .dict z) ∧ Q (.cl, .bool (truth x.2))
def Es (Γ : List Spc) : Exs → Env' → (List Res → Prop) → Prop
  | .nil, _, Q => Q []
  | .cons e es, ρ, Q => E Γ e ρ fun r => Es Γ es ρ fun rs => Q (r :: rs)
def cnd (Γ : List Spc) : Exs → Env' → (Bool → Prop) → Prop
  | .nil, _, Q => Q true
  | .cons e _, ρ, Q => E Γ e ρ (boolQ Q)
def srcW (Γ : List Spc) : Sr → Env' → (Kd → List D → Prop) → Prop
  | .rng as, ρ, Q => Es Γ as ρ (rngQ Q)
  | .of e, ρ, Q => E Γ e ρ (ofQ Q)
end

/-! ### statements -/
structure En where
  nx : Env' → Prop
  rt : Post
  bk : Env' → Prop
  ct : Env' → Prop
def putAll : List Nat → List D → Env' → Env'
  | i :: l, d :: ds, ρ => putAll l ds (ρ.set i (.fz d))
  | _, _, ρ => ρ
def frz1 : Sl → Sl
  | .ol ds => .fz (.list ds)
  | .un => .un
  | .fz d => .fz d
  | .sh ds => .sh ds
  | .sc ns => .sc ns
  | .od t kvs => .od t kvs
def frzAll (ρ : Env') : Env' := ρ.map frz1
/-- a store of a result in a slot -/
def stQ (i : Nat) (ρ : Env') (nx : Env' → Prop) : Post := fun r =>
  match r.1, r.2 with
  | .fr, .list ds => nx (ρ.set i (.ol ds))
  | .cl, d => nx (ρ.set i (.fz d))
  | _, _ => False
def retQ (e : Ex) (ρ : Env') : Option (List D) :=
  match e with
  | .var i => (match ρ[i]? with
    | some (.ol ds) => some ds
    | _ => none)
  | _ => none
/-- the pairs of a display, from the left -/
def pairsD : List Res → Option (List (D × D))
  | [] => some []
  | k :: v :: r => match toCl k, toCl v, pairsD r with
    | some a, some b, some q => some ((a, b) :: q)
    | _, _, _ => none
  | _ => none
mutual
noncomputable def W1 (Γ : List Spc) : S → Env' → En → Prop
  | .asg i e, ρ, N => E Γ e ρ (stQ i ρ N.nx)
  | .asgU l e, ρ, N => E Γ e ρ fun r => (match r.2 with
    | .list ds => ds.length = l.length ∧ N.nx (putAll l ds ρ)
    | .tuple ds => ds.length = l.length ∧ N.nx (putAll l ds ρ)
    | _ => False)
  | .aug i e, ρ, N => (match ρ[i]? with
    | some (.fz (.int n)) => E Γ e ρ fun r => ∃ m, r.2 = .int m ∧ N.nx (ρ.set i (.fz (.int (n + m))))
    | _ => False)
  | .app i e, ρ, N => (match ρ[i]? with
    | some (.ol ds) => ds.length < sizeLine ∧ E Γ e ρ fun r => ∃ d, toCl r = some d ∧ N.nx (ρ.set i (.ol (ds ++ [d])))
    | _ => False)
  | .appPop i j e, ρ, N => (match ρ[i]?, ρ[j]? with
    | some (.ol ds), some (.ol es) => i ≠ j ∧ ds.length < sizeLine ∧ E Γ e ρ fun r => ∃ n k d, r.2 = .int n ∧ -(2 ^ 63) ≤ n ∧ n < 2 ^ 63 ∧ seqIndex? n es.length = some k ∧ es[k]? = some d ∧ N.nx ((ρ.set j (.ol (es.eraseIdx k))).set i (.ol (ds ++ [d])))
    | _, _ => False)
  | .pop i, ρ, N => (match ρ[i]? with
    | some (.ol ds) => ds ≠ [] ∧ N.nx (ρ.set i (.ol ds.dropLast))
    | _ => False)
  | .setx i a e, ρ, N => (match ρ[i]? with
    | some (.ol ds) => E Γ e ρ fun r => ∃ d, toCl r = some d ∧ E Γ a ρ fun k => ∃ n j, k.2 = .int n ∧ ixN ds.length n = some j ∧ N.nx (ρ.set i (.ol (ds.set j d)))
    | some (.od t kvs) => E Γ e ρ fun r => ∃ d, toCl r = some d ∧ E Γ a ρ fun k => k.1 = .cl ∧ keyOk t k.2 = true ∧ kvs.length < sizeLine ∧ N.nx (ρ.set i (.od t (putD kvs k.2 d)))
    | _ => False)
  | .dnew t i as, ρ, N => Es Γ as ρ fun a => ∃ kvs, pairsD a = some kvs ∧ (kvs.all fun e => keyOk t e.1) = true ∧ kvs.length ≤ 15 ∧ N.nx (ρ.set i (.od t (kvs.foldl (fun acc e => putD acc e.1 e.2) [])))
  | .dcomp t i j s k v, ρ, N => srcW Γ s ρ fun _ ds => dcW (fun d P => E Γ k (ρ.set j (.fz d)) P) (fun d P => E Γ v (ρ.set j (.fz d)) P) t (fun kvs => N.nx (ρ.set i (.od t kvs))) ds []
  | .iff c a b, ρ, N => E Γ c ρ (boolQ fun k => if k = true then W Γ a ρ N else W Γ b ρ N)
  | .each j s body, ρ, N => srcW Γ s ρ fun kd ds => kd ≠ .ow ∧ ∃ I : Nat → Env' → Prop, I 0 ρ ∧
      (∀ (i : Nat) (d : D) (ρ' : Env'), ds[i]? = some d → I i ρ' → W Γ body (ρ'.set j (.fz d)) { nx := I (i + 1), rt := N.rt, bk := N.nx, ct := I (i + 1) }) ∧ ∀ ρ', I ds.length ρ' → N.nx ρ'
  | .whl c body, ρ, N => ∃ I : Nat → Env' → Prop, (∃ m, I m ρ) ∧
      ∀ m ρ', I m ρ' → E Γ c ρ' (boolQ fun k => if k = true then W Γ body ρ' { nx := fun ρ2 => ∃ m', m' < m ∧ I m' ρ2, rt := N.rt, bk := N.nx, ct := fun ρ2 => ∃ m', m' < m ∧ I m' ρ2 } else N.nx ρ')
  | .ret e, ρ, N => (match retQ e ρ with
    | some ds => N.rt (.fr, .list ds)
    | none => E Γ e (frzAll ρ) fun r => (r.1 = .fr ∨ r.1 = .cl) ∧ N.rt r)
  | .retN, _, N => N.rt (.cl, .none)
  | .brk, ρ, N => N.bk ρ
  | .cnt, ρ, N => N.ct ρ
  | .pas, ρ, N => N.nx ρ
  | .drop e, ρ, N => E Γ e ρ fun _ => N.nx ρ
  | .frz i, ρ, N => (match ρ[i]? with
    | some (.ol ds) => N.nx (ρ.set i (.fz (.list ds)))
    | _ => N.nx ρ)
noncomputable def W (Γ : List Spc) : Ss → Env' → En → Prop
  | .nil, ρ, N => N.nx ρ
  | .cons s ss, ρ, N => W1 Γ s ρ { N with nx := fun ρ' => W Γ ss ρ' N }
end
end Ir

set_option Elab.async false
set_option linter.all false
set_option maxRecDepth 100000
/-! Ir3: what is wanted may be weakened. -/
namespace Ir
open PySem
open L2

theorem boolQ.mono {Q Q' : Bool → Prop} (h : ∀ k, Q k → Q' k) : ∀ r, boolQ Q r → boolQ Q' r := fun _ ⟨k, e, q⟩ => ⟨k, e, h k q⟩
theorem opB.mono {o : Bo} {x y : Res} {Q Q' : Post} (h : ∀ r, Q r → Q' r) (q : opB o x y Q) : opB o x y Q' := by
  unfold opB at *
  split at q <;> first
    | exact h _ q
    | exact ⟨q.1, h _ q.2⟩
    | exact ⟨q.1, q.2.1, q.2.2.1, h _ q.2.2.2⟩
    | exact ⟨q.1, q.2.1, q.2.2.1, q.2.2.2.1, h _ q.2.2.2.2⟩
    | exact q.elim
theorem opC.mono {o : Co} {x y : Res} {Q Q' : Post} (h : ∀ r, Q r → Q' r) (q : opC o x y Q) : opC o x y Q' := by
  unfold opC at *
  split at q <;> first
    | exact h _ q
    | exact ⟨q.1, q.2.1, h _ q.2.2⟩
    | exact q.elim
theorem opCd.mono {o : Co} {t : Bool} {kvs : List (D × D)} {x : Res} {Q Q' : Post} (h : ∀ r, Q r → Q' r) (q : opCd o t kvs x Q) : opCd o t kvs x Q' := by
  unfold opCd at *
  split at q <;> first
    | exact ⟨q.1, q.2.1, h _ q.2.2⟩
    | exact q.elim
theorem opIx.mono {x y : Res} {Q Q' : Post} (h : ∀ r, Q r → Q' r) (q : opIx x y Q) : opIx x y Q' := by
  unfold opIx at *
  split at q <;> first
    | exact ⟨q.choose, q.choose_spec.1, h _ q.choose_spec.2⟩
    | exact q.elim
theorem opIxd.mono {t : Bool} {kvs : List (D × D)} {y : Res} {Q Q' : Post} (h : ∀ r, Q r → Q' r) (q : opIxd t kvs y Q) : opIxd t kvs y Q' :=
  ⟨q.1, q.2.1, q.2.2.choose, q.2.2.choose_spec.1, h _ q.2.2.choose_spec.2⟩
theorem opSl.mono {x : Res} {l u : Option Int} {Q Q' : Post} (h : ∀ r, Q r → Q' r) (q : opSl x l u Q) : opSl x l u Q' := by
  unfold opSl at *
  split at q <;> first
    | exact h _ q
    | exact q.elim
theorem bi.mono {f : Bi} {rs : List Res} {Q Q' : Post} (h : ∀ r, Q r → Q' r) (q : bi f rs Q) : bi f rs Q' := by
  unfold bi at *
  split at q
  · split at q <;> first | exact h _ q | exact q.elim
  · split at q <;> first | exact h _ q | exact q.elim
  · split at q <;> first | exact h _ q | exact q.elim
  · split at q <;> first | exact h _ q | exact q.elim
  · split at q <;> first | exact h _ q | exact q.elim
  · obtain ⟨ns, e, q⟩ := q
    exact ⟨ns, e, h _ q⟩
  · obtain ⟨ns, e, n, q⟩ := q
    exact ⟨ns, e, n, fun m hm hy => h _ (q m hm hy)⟩
  · obtain ⟨i, j, e1, e2, q⟩ := q
    exact ⟨i, j, e1, e2, h _ q⟩
  · obtain ⟨i, j, e1, e2, q⟩ := q
    exact ⟨i, j, e1, e2, h _ q⟩
  · obtain ⟨bs, e, q⟩ := q
    exact ⟨bs, e, h _ q⟩
  · obtain ⟨ns, n, e, h1, h2, q⟩ := q
    exact ⟨ns, n, e, h1, h2, fun ms p s => h _ (q ms p s)⟩
  · obtain ⟨a, b, c, d, e, q⟩ := q
    exact ⟨a, b, c, d, e, h _ q⟩
  · exact q.elim
theorem rngQ.mono {Q Q' : Kd → List D → Prop} {rs : List Res} (h : ∀ k ds, Q k ds → Q' k ds) (q : rngQ Q rs) : rngQ Q' rs := by
  unfold rngQ at *
  split at q
  · exact ⟨q.1, q.2.1, h _ _ q.2.2⟩
  · exact ⟨q.1, q.2.1, q.2.2.1, q.2.2.2.1, h _ _ q.2.2.2.2⟩
  · exact q.elim
theorem ofQ.mono {Q Q' : Kd → List D → Prop} (h : ∀ k ds, Q k ds → Q' k ds) (r : Res) (q : ofQ Q r) : ofQ Q' r := by
  unfold ofQ at *
  split at q <;> first | exact h _ _ q | exact q.elim
theorem lcW.mono {C C' : D → (Bool → Prop) → Prop} {F F' : D → Post → Prop} {Q Q' : Post} (hC : ∀ d P P', (∀ k, P k → P' k) → C d P → C' d P') (hF : ∀ d P P', (∀ r, P r → P' r) → F d P → F' d P') (h : ∀ r, Q r → Q' r) :
    ∀ (ds acc : List D), lcW C F Q ds acc → lcW C' F' Q' ds acc
  | [], acc, q => h _ q
  | d :: ds, acc, q => ⟨q.1, hC d _ _ (fun k z => by
    cases k with
    | true =>
      rw [if_pos rfl] at z ⊢
      exact hF d _ _ (fun r ⟨x, e, y⟩ => ⟨x, e, lcW.mono hC hF h ds _ y⟩) z
    | false =>
      rw [if_neg (by decide)] at z ⊢
      exact lcW.mono hC hF h ds _ z) q.2⟩
mutual
theorem E.mono {Γ : List Spc} : ∀ (e : Ex) {ρ : Env'} {Q Q' : Post}, (∀ r, Q r → Q' r) → E Γ e ρ Q → E Γ e ρ Q'
  | .var i, ρ, Q, Q', h, q => by
    simp only [E] at q ⊢
    split at q <;> first | exact h _ q | exact q.elim
  | .cst c, ρ, Q, Q', h, q => h _ q
  | .bin o a b, ρ, Q, Q', h, q => E.mono a (fun x q => E.mono b (fun y q => opB.mono h q) q) q
  | .cmp o a b, ρ, Q, Q', h, q => by
    simp only [E] at q ⊢
    refine E.mono a (fun x q => ?_) q
    split at q
    · exact opCd.mono h q
    · exact E.mono b (fun y q => opC.mono h q) q
  | .isn neg a, ρ, Q, Q', h, q => by
    simp only [E] at q ⊢
    refine E.mono a (fun x q => ?_) q
    split at q <;> exact h _ q
  | .neg a, ρ, Q, Q', h, q => E.mono a (fun x q => by
    obtain ⟨n, e, q⟩ := q
    exact ⟨n, e, h _ q⟩) q
  | .not a, ρ, Q, Q', h, q => E.mono a (boolQ.mono fun k q => h _ q) q
  | .and a b, ρ, Q, Q', h, q => E.mono a (boolQ.mono fun k q => by
    cases k with
    | true =>
      rw [if_pos rfl] at q ⊢
      exact E.mono b h q
    | false =>
      rw [if_neg (by decide)] at q ⊢
      exact h _ q) q
  | .or a b, ρ, Q, Q', h, q => E.mono a (boolQ.mono fun k q => by
    cases k with
    | true =>
      rw [if_pos rfl] at q ⊢
      exact h _ q
    | false =>
      rw [if_neg (by decide)] at q ⊢
      exact E.mono b h q) q
  | .ite c a b, ρ, Q, Q', h, q => E.mono c (boolQ.mono fun k q => by
    cases k with
    | true =>
      rw [if_pos rfl] at q ⊢
      exact E.mono a h q
    | false =>
      rw [if_neg (by decide)] at q ⊢
      exact E.mono b h q) q
  | .ix a b, ρ, Q, Q', h, q => by
    simp only [E] at q ⊢
    split at q
    · exact E.mono b (fun y q => opIxd.mono h q) q
    · exact E.mono a (fun x q => E.mono b (fun y q => opIx.mono h q) q) q
  | .sl a lo hi, ρ, Q, Q', h, q => E.mono a (fun x q => Es.mono lo (fun l q => by
    obtain ⟨o, e, q⟩ := q
    exact ⟨o, e, Es.mono hi (fun u q => by
      obtain ⟨o2, e2, q⟩ := q
      exact ⟨o2, e2, opSl.mono h q⟩) q⟩) q) q
  | .lst as, ρ, Q, Q', h, q => Es.mono as (fun rs q => by
    obtain ⟨ds, e, z, q⟩ := q
    exact ⟨ds, e, z, h _ q⟩) q
  | .tup as, ρ, Q, Q', h, q => Es.mono as (fun rs q => by
    obtain ⟨ds, e, z, q⟩ := q
    exact ⟨ds, e, z, h _ q⟩) q
  | .call f as, ρ, Q, Q', h, q => Es.mono as (fun rs q => by
    obtain ⟨T, as', R, e1, e2, e3, q⟩ := q
    exact ⟨T, as', R, e1, e2, e3, fun r z => h _ (q r z)⟩) q
  | .blt f as, ρ, Q, Q', h, q => Es.mono as (fun rs q => bi.mono h q) q
  | .trng a, ρ, Q, Q', h, q => E.mono a (fun x q => by
    obtain ⟨n, e, z1, z2, q⟩ := q
    exact ⟨n, e, z1, z2, h _ q⟩) q
  | .isi a ts, ρ, Q, Q', h, q => E.mono a (fun x q => h _ q) q
  | .lc j s c e, ρ, Q, Q', h, q => by
    simp only [E] at q ⊢
    exact srcW.mono s (fun k ds q => lcW.mono (fun d P P2 z q => cnd.mono c (ρ := ρ.set j (.fz d)) (Q := P) (Q' := P2) z q) (fun d P P2 z q => E.mono e (ρ := ρ.set j (.fz d)) (Q := P) (Q' := P2) z q) h ds [] q) q
  | .tru a, ρ, Q, Q', h, q => E.mono a (fun x q => ⟨q.1, q.2.1, h _ q.2.2⟩) q
theorem Es.mono {Γ : List Spc} : ∀ (es : Exs) {ρ : Env'} {Q Q' : List Res → Prop}, (∀ r, Q r → Q' r) → Es Γ es ρ Q → Es Γ es ρ Q'
  | .nil, ρ, Q, Q', h, q => h _ q
  | .cons e es, ρ, Q, Q', h, q => E.mono e (fun r q => Es.mono es (fun rs q => h _ q) q) q
theorem cnd.mono {Γ : List Spc} : ∀ (c : Exs) {ρ : Env'} {Q Q' : Bool → Prop}, (∀ r, Q r → Q' r) → cnd Γ c ρ Q → cnd Γ c ρ Q'
  | .nil, ρ, Q, Q', h, q => h _ q
  | .cons e _, ρ, Q, Q', h, q => E.mono e (boolQ.mono h) q
theorem srcW.mono {Γ : List Spc} : ∀ (s : Sr) {ρ : Env'} {Q Q' : Kd → List D → Prop}, (∀ k ds, Q k ds → Q' k ds) → srcW Γ s ρ Q → srcW Γ s ρ Q'
  | .rng as, ρ, Q, Q', h, q => Es.mono as (fun rs q => rngQ.mono h q) q
  | .of e, ρ, Q, Q', h, q => E.mono e (ofQ.mono h) q
end
end Ir

set_option Elab.async false
set_option linter.all false
set_option maxRecDepth 100000
set_option maxHeartbeats 1000000
/-! IrG: a def's promise where nothing is being shown (repr asks that), its calls, the law's end. -/
namespace Ir
open PySem
open L2
open PySem.Spec
open PyProof.Rows (IntsAre)

/-- the heads that are taken -/
def hd : Expr → Bool
  | .Name .. => true
  | .Constant .. => true
  | .BinOp .. => true
  | .UnaryOp .. => true
  | .BoolOp .. => true
  | .Compare .. => true
  | .Call .. => true
  | .Subscript .. => true
  | .List .. => true
  | .Tuple .. => true
  | .ListComp .. => true
  | _ => false
theorem star_hd {e : Expr} {es : List Expr} {env : Env} (h : hd e = true) : starEach (e :: es) env = (false, eval e env) :: starEach es env := by
  cases e <;> first | rfl | cases h
theorem set_hd {e : Expr} {env : Env} (h : hd e = true) (x : Value) : foldedSetIterable e env x = pure x := by
  cases e <;> first | rfl | cases h
theorem ix_hd {e : Expr} (h : hd e = true) : PlainIx e := fun o i => by
  cases e <;> first | rfl | cases h
theorem mark_hd {e : Expr} {op : CmpOp} (h : hd e = true) : behindInMarks op e = false := by
  cases e <;> first | rfl | cases h

/-- as FnOk, no exception, where no repr runs around -/
structure FnG (P : Program) (w : World) (K : PySem.W.Frag) (mg : Str → Option Value) (base : Heap) (k : Nat) (f : Addr) (fd : FuncData) (ps : List Str) (sp : Sp) : Prop where
  len : ∀ vs H Q E, sp vs H Q E → vs.length = ps.length
  run : ∀ (A : Around) (outer : List Env) (s : Shared) (H : Hp) (args : Args) (us : List Value) (vs : List V) (Q : VK), A.guards = some [] → Room k A → Env0 P w K mg base A outer s H → BindsTo s fd args (ps.zip us) → Vals vs us →
    sp vs H Q E0 → codeAny (model P w) A (.call (.ref f) args) (CR CX0 outer P w H s Q E0) s
theorem FnG.mono {P : Program} {w : World} {K : PySem.W.Frag} {mg : Str → Option Value} {base : Heap} {j k : Nat} {f : Addr} {fd : FuncData} {ps : List Str} {sp : Sp} (F : FnG P w K mg base j f fd ps sp) (h : j ≤ k) :
    FnG P w K mg base k f fd ps sp := ⟨F.len, fun A outer s H args us vs Q g r => F.run A outer s H args us vs Q g (r.mono h)⟩
section
variable {X : Cx} {k : Nat} {f : Addr} {fd : FuncData} {ps : List Str} {sp : Sp} {x : Str} {p pos : Pos} {e : Expr} {es : List Expr} {t : TA}
theorem run_g {pins : List (Addr × Obj)} {σ : L2.St} {H : Hp} {s : Shared} {Q : VK} {us : List Value} {vs : List V} (F : FnG X.prog X.w X.K X.mg X.base k f fd ps sp) (hg : X.A.guards = some []) (hr : Room k X.A) (hb : Binds X.K fd ps [])
    (I : Inv X pins σ H s) (r : Vals vs us) (h : sp vs H Q E0) : wpAny (model X.prog X.w) X.A (call (.ref f) us) (EP X pins σ Q) X.xe s := by
  have hl : (us ++ ([] : List Value)).length = ps.length := by
    rw [List.append_nil, ← r.length]
    exact F.len _ _ _ _ h
  have bd := hb s us I.kIn hl
  rw [List.append_nil] at bd
  refine wpAny_call (codeAny_mono (F.run X.A X.stack s H ⟨us, []⟩ us vs Q hg hr I.env0 bd r h) fun z s' hq => ?_)
  cases z with
  | error _ => exact hq.elim
  | ok fl =>
    cases fl with
    | ret u => exact I.after hq
    | next => exact hq.elim
    | brk => exact hq.elim
    | cont => exact hq.elim
theorem star_any {es : List Expr} {env : Env} (h : es.all hd = true) : (backTo pos (starEach es env)).any (·.1) = false := by
  induction es with
  | nil => rfl
  | cons e es ih =>
    rw [List.all_cons, Bool.and_eq_true] at h
    rw [star_hd h.1]
    show (false || (backTo pos (starEach es env)).any (·.1)) = false
    rw [ih h.2] <;> rfl
theorem call_g (F : FnG X.prog X.w X.K X.mg X.base k f fd ps sp) (hg : X.A.guards = some []) (hr : Room k X.A) (gl : Gl X x) (hm : X.mg x = some (.ref f)) (hk : PySem.W.keepIn X.K (.ref f) = true) (hb : Binds X.K fd ps [])
    (hd1 : hd e = true) (hds : es.all hd = true) (ha : PA X (e :: es) t) (hx : (x == ("__debug__" : Str)) = false) : PE X (.Call (.Name x p) (e :: es) [] pos) (fun σ H Q => t σ H fun vs H1 => sp vs H1 Q E0) := by
  refine ⟨fun pins s σ H Q I h => wpAny_Call_Name_kw (ld_glob I gl hm ?_ hx)⟩
  have step : wpAny (model X.prog X.w) X.A (spliced (backTo pos (starEach (e :: es) X.env))) (fun us s1 => X.K.In s1.heap ∧ wpAny (model X.prog X.w) X.A (call (.ref f) us) (EP X pins σ Q) X.xe s1) X.xe s :=
    thn (ha.run pos pins s σ H _ I h) fun us s1 ⟨vs, H1, I1, r, q⟩ => ⟨I1.kIn, run_g F hg hr hb I1 r q⟩
  exact PySem.W.callWith_K (h₀ := X.base) I.ok.mod.kin hk step (star_hd hd1) (star_any hds)
end
/-- the rule of a def of the text -/
theorem fn_g {P : Program} {w : World} {K : PySem.W.Frag} {mg : Str → Option Value} {base : Heap} {x qual : Str} {st : Stmt} {f : Addr} {fd : FuncData} {N ps : List Str} {k : Nat} {sp : Sp} (F : Fun K x qual st f fd) (S : FnScope N ps (defScope st))
    (len : ∀ vs H Q E, sp vs H Q E → vs.length = ps.length)
    (body : ∀ (cdv : Value) (A : Around) (outer : List Env) (s : Shared) (H : Hp) (vs : List V) (Q : VK), A.guards = some [] → Room k (A.deeper (PyProof.Rows.envOfC qual (defScope st) s.heap.objs.size f cdv)) → sp vs H Q E0 →
      ∃ t, PSs (cxOf CX0 P w K mg base N qual (defScope st) f cdv A outer s H E0).nox (defBody st) t ∧ t { nx := fun _ H' => Q .non H', rt := Q } (start N vs) H) : FnG P w K mg base (k + 1) f fd ps sp := by
  obtain ⟨oc, od, kV, doc, pm, an, cdv, ct, osl, rfl, lk, hcd⟩ := F.ex
  refine ⟨len, fun A outer s H args us vs Q hg hr e0 hb r hsp => ?_⟩
  have hlen := len _ _ _ _ hsp
  have inK : K.In s.heap := e0.mod.kin.keeps fun b o z => (e0.bs b o z).1
  have noL : s.heap.NoLimit := e0.mod.nolimit.keeps fun b o z => (e0.bs b o z).1
  have sort : ∀ y ∈ ps.zip us, (defScope st).names.lookup y.1 = some .local ∨ ((defScope st).names.lookup y.1 = some .cell ∧ ((cellsFrom (s.heap.objs.size + 1) (defScope st).names []).lookup y.1).isSome = true) := by
    intro y hy
    obtain ⟨n, v⟩ := y
    cases S.par n (List.of_mem_zip hy).1 with
    | inl q => exact .inl q
    | inr q => exact .inr ⟨q, PySem.W.cellsFrom_some _ _ _ (.inl q)⟩
  refine codeAny_call_function hr.depth (inK _ _ lk) rfl S.co S.gen rfl (PySem.W.codeRec_of inK hcd) (hb _ _ _ _ ?_)
  refine wpAny_newFunctionEnv_cells S.kind sort fun env ee s1 y => ?_
  subst ee
  refine ⟨noL.keeps y.toInCall.keep, codeAny_func ?_⟩
  obtain ⟨t, ht, hq⟩ := body cdv A outer s H vs Q hg (hr.deeper _) hsp
  have J0 : Inv (cxOf CX0 P w K mg base N qual (defScope st) f cdv A outer s H E0) [] (start N vs) H s1 := inv_start S hr.hd e0 hlen r y
  refine wpAny_mono (ht.nox.run [] s1 (start N vs) H _ J0 hq) (fun fl s' hs => ?_) fun _ _ hs => hs
  cases fl with
  | ret u =>
    obtain ⟨v, _, H', J, rv, q⟩ := hs
    exact ⟨v, H', J.os, J.bare, J.base, J.hok, rv, q⟩
  | next =>
    obtain ⟨_, H', J, q⟩ := hs
    exact ⟨V.non, H', J.os, J.bare, J.base, J.hok, rfl, q⟩
  | brk =>
    obtain ⟨_, _, _, q⟩ := hs
    exact q.elim
  | cont =>
    obtain ⟨_, _, _, q⟩ := hs
    exact q.elim
end Ir

set_option Elab.async false
set_option linter.all false
set_option maxRecDepth 100000
set_option maxHeartbeats 1000000
/-! Ir4: readings over worlds; each expression's rule. -/
namespace Ir
open PySem
open L2

section
variable {X : Cx} {K : PySem.W.Frag}
theorem pe_imp {e : Expr} {t t' : TE} (h : PE X e t) (k : ∀ σ H Q, t' σ H Q → t σ H Q) : PE X e t' := ⟨fun pins s σ H Q I q => h.run pins s σ H Q I (k σ H Q q)⟩
theorem pt_imp {e : Expr} {t t' : TT} (h : PT X e t) (k : ∀ σ H Q, t' σ H Q → t σ H Q) : PT X e t' := ⟨fun pins s σ H Q I q => h.run pins s σ H Q I (k σ H Q q)⟩
theorem pw_imp {e : Expr} {t t' : TT} (h : PW X e t) (k : ∀ σ H Q, t' σ H Q → t σ H Q) : PW X e t' := ⟨fun wh pins s σ H Q I q => h.run wh pins s σ H Q I (k σ H Q q)⟩
theorem pa_imp {e : List Expr} {t t' : TA} (h : PA X e t) (k : ∀ σ H Q, t' σ H Q → t σ H Q) : PA X e t' := ⟨fun p pins s σ H Q I q => h.run p pins s σ H Q I (k σ H Q q)⟩
theorem ps_imp {e : Stmt} {t t' : TS} (h : PS X e t) (k : ∀ D σ H, t' D σ H → t D σ H) : PS X e t' := ⟨fun pins s σ H D I q => h.run pins s σ H D I (k D σ H q)⟩
theorem pss_imp {e : List Stmt} {t t' : TS} (h : PSs X e t) (k : ∀ D σ H, t' D σ H → t D σ H) : PSs X e t' := ⟨fun pins s σ H D I q => h.run pins s σ H D I (k D σ H q)⟩
theorem pi_imp {tg e : Expr} {t t' : TI} (h : PI X tg e t) (k : ∀ σ H Q, t' σ H Q → t σ H Q) : PI X tg e t' := ⟨fun pins s σ H R I q => h.run pins s σ H R I (k σ H R q)⟩
theorem pe_or2 {e : Expr} {t t' : TE} (h : PE X e t) (h' : PE X e t') : PE X e (fun σ H Q => t σ H Q ∨ t' σ H Q) := ⟨fun pins s σ H Q I q => q.elim (h.run pins s σ H Q I) (h'.run pins s σ H Q I)⟩
theorem pt_or2 {e : Expr} {t t' : TT} (h : PT X e t) (h' : PT X e t') : PT X e (fun σ H Q => t σ H Q ∨ t' σ H Q) := ⟨fun pins s σ H Q I q => q.elim (h.run pins s σ H Q I) (h'.run pins s σ H Q I)⟩
theorem pi_or2 {tg e : Expr} {t t' : TI} (h : PI X tg e t) (h' : PI X tg e t') : PI X tg e (fun σ H Q => t σ H Q ∨ t' σ H Q) := ⟨fun pins s σ H R I q => q.elim (h.run pins s σ H R I) (h'.run pins s σ H R I)⟩
end

/-! ### readings -/
/-- of an expression that means T -/
def rd (K : PySem.W.Frag) (T : Env' → Post → Prop) : TE := fun σ H Q => ∃ B w ρ, w.h = H ∧ SR K B w ρ σ ∧ T ρ fun r => ∀ w' v, Ext w w' → VOk K w w' r v → Q v w'.h
def rdT (K : PySem.W.Frag) (T : Env' → (Bool → Prop) → Prop) : TT := fun σ H Q => ∃ B w ρ, w.h = H ∧ SR K B w ρ σ ∧ T ρ fun k => ∀ w', Ext w w' → Q k w'.h
/-- an argument: frozen where it was new -/
def aK : Kd → Kd
  | .fr => .cl
  | k => k
def AOk (K : PySem.W.Frag) (w : Wd) (r : Res) (v : V) : Prop := VOk K w w (aK r.1, r.2) v
abbrev AOks (K : PySem.W.Frag) (w : Wd) : List Res → List V → Prop := Paired (AOk K w)
def rdA (K : PySem.W.Frag) (T : Env' → (List Res → Prop) → Prop) : TA := fun σ H Q => ∃ B w ρ, w.h = H ∧ SR K B w ρ σ ∧ T ρ fun rs => ∀ w' vs, Ext w w' → AOks K w' rs vs → Q vs w'.h
def MonP (T : Env' → Post → Prop) : Prop := ∀ (ρ : Env') (Q Q' : Post), (∀ r, Q r → Q' r) → T ρ Q → T ρ Q'
def MonA (T : Env' → (List Res → Prop) → Prop) : Prop := ∀ (ρ : Env') (Q Q' : List Res → Prop), (∀ r, Q r → Q' r) → T ρ Q → T ρ Q'
theorem monE {Γ : List Spc} (e : Ex) : MonP (E Γ e) := fun _ _ _ h q => E.mono e h q
theorem monEs {Γ : List Spc} (e : Exs) : MonA (Es Γ e) := fun _ _ _ h q => Es.mono e h q
section
variable {K : PySem.W.Frag} {B : Bs} {w w' : Wd} {ρ : Env'} {σ : L2.St} {r : Res} {v : V}
theorem AOk.ext (o : w.Ok) (e : Ext w w') (h : AOk K w r v) : AOk K w' r v := by
  have q := VOk.mono o e h
  obtain ⟨k, d⟩ := r
  cases k <;> first | exact q | (exact VOk.mono e.ok (Ext.refl e.ok) q)
theorem AOks.ext (o : w.Ok) (e : Ext w w') {rs : List Res} {vs : List V} (h : AOks K w rs vs) : AOks K w' rs vs := Paired.imp (fun _ _ q => AOk.ext o e q) h
theorem VOk.arg {w0 : Wd} (e : Ext w0 w) (h : VOk K w0 w r v) : ∃ w', w'.h = w.h ∧ Ext w0 w' ∧ AOk K w' r v := by
  obtain ⟨k, d⟩ := r
  cases k with
  | fr =>
    obtain ⟨w', h1, h2, h3⟩ := VOk.clean e h rfl
    exact ⟨w', h1, h2, h3⟩
  | cl => exact ⟨w, rfl, e, h⟩
  | sh => exact ⟨w, rfl, e, h⟩
  | ow => exact ⟨w, rfl, e, h⟩
  | sc => exact ⟨w, rfl, e, h⟩
theorem AOk.dp (o : w.Ok) (h : AOk K w r v) : Dp K w.h v r.2 := VOk.dp (w0 := w) (r := (aK r.1, r.2)) o h
theorem AOk.clean (h : AOk K w r v) {d : D} (c : toCl r = some d) : Rp w.f v d := by
  obtain ⟨k, d'⟩ := r
  cases k <;> first | (cases c; exact h) | cases c
theorem rd_go {T : Env' → Post → Prop} {Q : VK} (s : SR K B w ρ σ) (q : T ρ fun r => ∀ w' v, Ext w w' → VOk K w w' r v → Q v w'.h) : rd K T σ w.h Q := ⟨B, w, ρ, rfl, s, q⟩
theorem rdA_go {T : Env' → (List Res → Prop) → Prop} {Q : List V → Hp → Prop} (s : SR K B w ρ σ) (q : T ρ fun r => ∀ w' v, Ext w w' → AOks K w' r v → Q v w'.h) : rdA K T σ w.h Q := ⟨B, w, ρ, rfl, s, q⟩
theorem rdT_go {T : Env' → (Bool → Prop) → Prop} {Q : Bool → Hp → Prop} (s : SR K B w ρ σ) (q : T ρ fun k => ∀ w', Ext w w' → Q k w'.h) : rdT K T σ w.h Q := ⟨B, w, ρ, rfl, s, q⟩
end

/-! ### the context -/
def bnames : List Str := ["len", "int", "abs", "tuple", "list", "sorted", "sum", "min", "max", "all", "repr", "range", "isinstance", "bool", "str"]
structure Tb where
  N : List Str
  fns : List Str
inductive ArgRep (K : PySem.W.Frag) (Hf H : Hp) : Arg → V → Prop where
  | cl {d : D} {v : V} (r : Rp Hf v d) : ArgRep K Hf H (.cl d) v
  | sh {p : Addr} {vs : List V} {ds : List D} (e : H p = some (.lst vs)) (r : RpA Hf vs ds) : ArgRep K Hf H (.sh ds) (.ref p)
  | sc {p : Addr} {ns : List Int} (e : SqL K H p (ns.map V.int)) : ArgRep K Hf H (.sc ns) (.ref p)
abbrev ArgsRep (K : PySem.W.Frag) (Hf H : Hp) : List Arg → List V → Prop := Paired (ArgRep K Hf H)
/-- a promise over data, as the layer takes it -/
def spD (K : PySem.W.Frag) (S : Spc) : Sp := fun vs H Q _ => ∃ (Hf : Hp) (as : List Arg) (R : Post), Same Hf H ∧ ArgsRep K Hf H as vs ∧ S as R ∧
  ∀ r w' v, R r → Ext ⟨Hf, H, H⟩ w' → VOk K ⟨Hf, H, H⟩ w' r v → (r.1 = .fr ∨ r.1 = .cl) → Q v w'.h
structure Known (P : Program) (w : World) (K : PySem.W.Frag) (mg : Str → Option Value) (base : Heap) (k : Nat) (x : Str) (S : Spc) : Prop where
  it : ∃ (f : Addr) (fd : FuncData) (ps : List Str), mg x = some (.ref f) ∧ PySem.W.keepIn K (.ref f) = true ∧ Binds K fd ps [] ∧ FnG P w K mg base k f fd ps (spD K S)
structure Gd (T : Tb) (k : Nat) (Γ : List Spc) (sc : Scope) (X : Cx) : Prop where
  N : X.N = T.N
  nd : X.N.Nodup
  scp : X.env.scope = sc
  fk : sc.kind = .function
  calm : X.calm = true
  room : Room k X.A
  grd : X.A.guards = some []
  own : PassesOwn (model X.prog X.w) X.A X.env X.xe
  bn : ∀ x ∈ bnames, X.mg x = none
  fn : ∀ (i : Nat) (S : Spc), Γ[i]? = some S → ∃ x, T.fns[i]? = some x ∧ Known X.prog X.w X.K X.mg X.base k x S
section
variable {X : Cx} {T : Tb} {k : Nat} {Γ : List Spc} {sc : Scope} {pos : Pos}

/-! ### names and constants -/
theorem e_var {i : Nat} {x : Str} (hN : X.N[i]? = some x) (hv : Vis X.env.scope x) (h1 : (x == ("__debug__" : Str)) = false) (h2 : (x == ("__classdict__" : Str)) = false) : PE X (.Name x pos) (rd X.K (E Γ (.var i))) := by
  refine pe_imp (pe_var hN hv h1 h2) fun σ H Q h => ?_
  obtain ⟨B, w, ρ, rfl, s, q⟩ := h
  simp only [E] at q
  cases e : ρ[i]? with
  | none => rw [e] at q; exact q.elim
  | some z =>
    rw [e] at q
    obtain ⟨v, hs, ok⟩ := s.sl i z e
    cases z with
    | un => exact q.elim
    | fz d =>
      obtain ⟨y, e1, r⟩ := ok
      subst e1
      exact ⟨y, hs, q w y (Ext.refl s.ok) r⟩
    | ol ds =>
      obtain ⟨p, vs, e1, e2, e3, r⟩ := ok
      subst e1
      exact ⟨_, hs, q w _ (Ext.refl s.ok) ⟨p, vs, ds, rfl, rfl, e2, r⟩⟩
    | sh ds =>
      obtain ⟨p, vs, e1, e2, r⟩ := ok
      subst e1
      exact ⟨_, hs, q w _ (Ext.refl s.ok) ⟨p, vs, ds, rfl, rfl, e2, r⟩⟩
    | sc ns =>
      obtain ⟨p, e1, e2⟩ := ok
      subst e1
      exact ⟨_, hs, q w _ (Ext.refl s.ok) ⟨p, ns, rfl, rfl, e2⟩⟩
    | od t kvs => exact q.elim
theorem e_cst {e : Expr} {c : Cn} {v : V} (h : PE X e (tC v)) (hr : ∀ H : Hp, Rp H v c.d) : PE X e (rd X.K (E Γ (.cst c))) :=
  pe_imp h fun σ H Q h => by
    obtain ⟨B, w, ρ, rfl, s, q⟩ := h
    exact q w v (Ext.refl s.ok) (hr _)

/-! ### two operands -/
/-- what a rule by values must give -/
def RR (K : PySem.W.Frag) (sem : Res → Res → Post → Prop) (r : R2) : Prop := ∀ (w0 w : Wd) (x y : Res) (a b : V) (P : Post) (Q : VK), w.Ok → Ext w0 w → VOk K w0 w x a → VOk K w0 w y b → sem x y P →
  (∀ z w' v, P z → Ext w w' → VOk K w w' z v → Q v w'.h) → r a b w.h Q
theorem tOp_rd {K : PySem.W.Frag} {Ta Tb : Env' → Post → Prop} {sem : Res → Res → Post → Prop} {r : R2} (ma : MonP Ta) (mb : MonP Tb) (hr : RR K sem r) {σ : L2.St} {H : Hp} {Q : VK}
    (h : rd K (fun ρ P => Ta ρ fun x => Tb ρ fun y => sem x y P) σ H Q) : tOp r (rd K Ta) (rd K Tb) σ H Q := by
  obtain ⟨B, w, ρ, rfl, s, q⟩ := h
  refine rd_go s (ma _ _ _ (fun x qx w1 v1 e1 o1 => ?_) q)
  refine rd_go (s.grow e1) (mb _ _ _ (fun y qy w2 v2 e2 o2 => ?_) qx)
  refine hr w w2 x y v1 v2 _ Q e2.ok (e1.trans e2) (o1.mono e1.ok e2) (o2.early e1.h) qy fun z w' v p e3 o3 => ?_
  exact p w' v ((e1.trans e2).trans e3) (o3.early ((e1.trans e2).h))
theorem e_bin {a b : Expr} {op : Operator} {r : R2} {o : Bo} {ea eb : Ex} (ho : OpR X (binaryOp op) r) (hr : RR X.K (opB o) r) (ha : PE X a (rd X.K (E Γ ea))) (hb : PE X b (rd X.K (E Γ eb))) :
    PE X (.BinOp a op b pos) (rd X.K (E Γ (.bin o ea eb))) :=
  pe_imp (pe_op ho ha hb) fun σ H Q h => tOp_rd (monE ea) (monE eb) hr h
theorem rr_int {K : PySem.W.Frag} {sem : Res → Res → Post → Prop} {C : Int → Int → Prop} {g : Int → Int → Int} (h : ∀ x y P, sem x y P → ∃ i j, x.2 = .int i ∧ y.2 = .int j ∧ C i j ∧ P (.cl, .int (g i j))) : RR K sem (rI C fun i j => .int (g i j)) := by
  intro w0 w x y a b P Q ok e ha hb hs hq
  obtain ⟨i, j, ex, ey, hc, hp⟩ := h x y P hs
  obtain ⟨kx, dx⟩ := x
  obtain ⟨ky, dy⟩ := y
  subst ex ey
  exact ⟨i, j, ha.int, hb.int, hc, hq _ w _ hp (Ext.refl ok) (Rp.int _)⟩
theorem rr_imp {K : PySem.W.Frag} {sem : Res → Res → Post → Prop} {r r' : R2} (h : RR K sem r) (k : ∀ a b H Q, r a b H Q → r' a b H Q) : RR K sem r' := fun w0 w x y a b P Q h1 h2 h3 h4 h5 h6 => k _ _ _ _ (h w0 w x y a b P Q h1 h2 h3 h4 h5 h6)
theorem b_sub : RR X.K (opB .sub) (rI0 fun i j => .int (i - j)) := by
  refine rr_imp (rr_int (C := fun _ _ => True) (g := fun i j => i - j) fun x y P h => ?_) fun a b H Q ⟨i, j, e1, e2, _, q⟩ => ⟨i, j, e1, e2, q⟩
  unfold opB at h
  split at h <;> first | contradiction | (rename_i e1 e2; exact ⟨_, _, e1, e2, True.intro, h⟩)
theorem b_fdiv : RR X.K (opB .fdiv) (rI CDivW fun i j => .int (i / j)) := by
  refine rr_int fun x y P h => ?_
  unfold opB at h
  split at h <;> first | contradiction | (rename_i e1 e2; exact ⟨_, _, e1, e2, h.1, h.2⟩)
theorem b_mod : RR X.K (opB .mod) (rI (fun _ j => 0 < j) fun i j => .int (i % j)) := by
  refine rr_int fun x y P h => ?_
  unfold opB at h
  split at h <;> first | contradiction | (rename_i e1 e2; exact ⟨_, _, e1, e2, h.1, h.2⟩)
theorem b_pow : RR X.K (opB .pow) (rI CPow fun i j => .int (i ^ j.toNat)) := by
  refine rr_int fun x y P h => ?_
  unfold opB at h
  split at h <;> first | contradiction | (rename_i e1 e2; exact ⟨_, _, e1, e2, h.1, h.2⟩)
theorem b_shl : RR X.K (opB .shl) (rI CPow fun i j => .int (i * 2 ^ j.toNat)) := by
  refine rr_int fun x y P h => ?_
  unfold opB at h
  split at h <;> first | contradiction | (rename_i e1 e2; exact ⟨_, _, e1, e2, h.1, h.2⟩)
theorem b_shr : RR X.K (opB .shr) (rI (fun _ j => 0 ≤ j) fun i j => .int (i / 2 ^ j.toNat)) := by
  refine rr_int fun x y P h => ?_
  unfold opB at h
  split at h <;> first | contradiction | (rename_i e1 e2; exact ⟨_, _, e1, e2, h.1, h.2⟩)
/-- a new list, a new tuple, laid by a rule -/
theorem new_fr {K : PySem.W.Frag} {w : Wd} {vs : List V} {ds : List D} {P : Post} {Q : VK} (ok : w.Ok) (hr : RpA w.f vs ds) (hp : P (.fr, .list ds)) (hq : ∀ z w' v, P z → Ext w w' → VOk K w w' z v → Q v w'.h) :
    ∀ p, w.h p = none → Q (.ref p) (upd w.h p (.lst vs)) := fun p hn =>
  hq _ (w.add p (.lst vs)) (.ref p) hp (Ext.add ok hn) ⟨p, vs, ds, rfl, rfl, hn, upd_same, Same.back ok.bh hn, hr⟩
theorem new_tu {K : PySem.W.Frag} {w : Wd} {vs : List V} {ds : List D} {P : Post} {Q : VK} (ok : w.Ok) (hr : RpA w.f vs ds) (hp : P (.cl, .tuple ds)) (hq : ∀ z w' v, P z → Ext w w' → VOk K w w' z v → Q v w'.h) :
    ∀ p, w.h p = none → Q (.ref p) (upd w.h p (.tup vs)) := fun p hn =>
  hq _ (w.lay p (.tup vs)) (.ref p) hp (Ext.lay ok hn) (Rp.tup upd_same (hr.mono (Wd.lay_sf ok hn)))
def rMulA : R2 := fun x y H Q => (rI CMul (fun i j => .int (i * j)) x y H Q ∨ rI CMulW (fun i j => .int (i * j)) x y H Q) ∨ rRep x y H Q
theorem op_mulA : OpR X (binaryOp .Mult) rMulA := (op_mul.or op_mulW).or op_rep
theorem b_mul : RR X.K (opB .mul) rMulA := by
  intro w0 w x y a b P Q ok e ha hb hs hq
  obtain ⟨kx, dx⟩ := x
  obtain ⟨ky, dy⟩ := y
  unfold opB at hs
  split at hs <;> first | contradiction | skip
  · rename_i i j _ e1 e2
    have e1 : dx = .int i := e1
    have e2 : dy = .int j := e2
    subst e1 e2
    rcases hs.1 with c | c
    · exact .inl (.inl ⟨i, j, ha.int, hb.int, c, hq _ w _ hs.2 (Ext.refl ok) (Rp.int _)⟩)
    · exact .inl (.inr ⟨i, j, ha.int, hb.int, c, hq _ w _ hs.2 (Ext.refl ok) (Rp.int _)⟩)
  · rename_i l n _ e1 e2
    have e1 : dx = .list l := e1
    have e2 : dy = .int n := e2
    subst e1 e2
    obtain ⟨h1, h2, h3, h4, h5⟩ := hs
    obtain ⟨p, vs, rfl, hp, hr⟩ := ha.tracked ok rfl h1
    refine .inr ⟨p, n, vs, rfl, hb.int, hp, by omega, h3, by rw [hr.len]; exact h4, new_fr ok (hr.rep n.toNat) h5 hq⟩
def rAddA (K : PySem.W.Frag) : R2 := fun x y H Q => (rI0 (fun i j => .int (i + j)) x y H Q ∨ (∃ i j, x = .str i ∧ y = .str j ∧ i.length + j.length ≤ sizeLine ∧ Q (.str (i ++ j)) H)) ∨ (rCat x y H Q ∨ rCatA K x y H Q)
theorem op_addA : OpR X (binaryOp .Add) (rAddA X.K) := (op_add.or op_add_str).or (op_cat.or op_catA)
theorem b_add : RR X.K (opB .add) (rAddA X.K) := by
  intro w0 w x y a b P Q ok e ha hb hs hq
  obtain ⟨kx, dx⟩ := x
  obtain ⟨ky, dy⟩ := y
  unfold opB at hs
  split at hs <;> first | contradiction | skip
  · rename_i i j _ e1 e2
    have e1 : dx = .int i := e1
    have e2 : dy = .int j := e2
    subst e1 e2
    exact .inl (.inl ⟨i, j, ha.int, hb.int, hq _ w _ hs (Ext.refl ok) (Rp.int _)⟩)
  · rename_i i j _ e1 e2
    have e1 : dx = .str i := e1
    have e2 : dy = .str j := e2
    subst e1 e2
    exact .inl (.inr ⟨i, j, ha.str, hb.str, hs.1, hq _ w _ hs.2 (Ext.refl ok) (Rp.str _)⟩)
  · rename_i l m _ e1 e2
    have e1 : dx = .list l := e1
    have e2 : dy = .list m := e2
    subst e1 e2
    obtain ⟨h1, h2, h3, h4⟩ := hs
    obtain ⟨p, vs, rfl, hp, hr⟩ := ha.tracked ok rfl h1
    obtain ⟨p2, vs2, rfl, hp2, hr2⟩ := hb.tracked ok rfl h2
    exact .inr (.inl ⟨p, p2, vs, vs2, rfl, rfl, hp, hp2, by rw [hr.len, hr2.len]; exact h3, new_fr ok (hr.app hr2) h4 hq⟩)
  · rename_i l m _ e1 e2
    have e1 : dx = .tuple l := e1
    have e2 : dy = .tuple m := e2
    subst e1 e2
    obtain ⟨h3, h4⟩ := hs
    obtain ⟨p, vs, rfl, hp, hr⟩ := ha.tuple
    obtain ⟨p2, vs2, rfl, hp2, hr2⟩ := hb.tuple
    refine .inr (.inr ⟨p, p2, vs, vs2, rfl, rfl, SqT.of (ok.fh _ _ hp), SqT.of (ok.fh _ _ hp2), by rw [hr.len, hr2.len]; exact h3, fun z => ?_, fun z1 z2 => ?_, fun _ _ => new_tu ok (hr.app hr2) h4 hq⟩)
    · subst z
      cases hr
      exact hq _ w _ h4 (Ext.refl ok) (Rp.tup hp2 hr2)
    · subst z2
      cases hr2
      refine hq _ w _ h4 (Ext.refl ok) (Rp.tup hp ?_)
      rw [List.append_nil]
      exact hr
end
end Ir

set_option Elab.async false
set_option linter.all false
set_option maxRecDepth 100000
set_option maxHeartbeats 1000000
/-! Ir5: comparisons, indexes, slices, displays, tests. -/
namespace Ir
open PySem
open L2

/-! ### dicts over data -/
theorem keyD_inj : ∀ {a b : Key}, keyD a = keyD b → a = b
  | .inl i, .inl j, h => by
    have e : i = j := PyData.int.inj h
    rw [e]
  | .inl _, .inr _, h => nomatch h
  | .inr _, .inl _, h => nomatch h
  | .inr i, .inr j, h => by
    have e : i = j := PyData.str.inj h
    rw [e]
theorem keysD_inj : ∀ {a b : List Key}, a.map keyD = b.map keyD → a = b
  | [], [], _ => rfl
  | [], _ :: _, h => nomatch h
  | _ :: _, [], h => nomatch h
  | x :: xs, y :: ys, h => by
    rw [List.map_cons, List.map_cons] at h
    injection h with h1 h2
    rw [keyD_inj h1, keysD_inj h2]
theorem look_nil (k : D) : lookD [] k = none := rfl
theorem look_pos {k v : D} {kvs : List (D × D)} : lookD ((k, v) :: kvs) k = some v := by
  unfold lookD
  rw [List.find?_cons_of_pos (by simp)]
  rfl
theorem look_neg {k j v : D} {kvs : List (D × D)} (h : j ≠ k) : lookD ((j, v) :: kvs) k = lookD kvs k := by
  unfold lookD
  rw [List.find?_cons_of_neg (by simpa using h)]
theorem look_rel {κ : Type} [DecidableEq κ] {f : κ → D} (inj : ∀ a b, f a = f b → a = b) {H : Hp} (k : κ) : ∀ {ks : List (κ × V)} {kvs : List (D × D)}, Paired (fun x (y : D × D) => f x.1 = y.1 ∧ Rp H x.2 y.2) ks kvs →
    (lookD kvs (f k) = none ∧ valV ks k = none) ∨ ∃ d v, lookD kvs (f k) = some d ∧ valV ks k = some v ∧ Rp H v d
  | _, _, .nil => .inl ⟨rfl, rfl⟩
  | (x, v) :: ks, (y, d) :: kvs, .cons h t => by
    obtain ⟨h1, h2⟩ := h
    have h1 : f x = y := h1
    by_cases e : x = k
    · subst e
      subst h1
      exact .inr ⟨d, v, look_pos, valV_pos rfl, h2⟩
    · have ne : y ≠ f k := fun z => e (inj _ _ (h1.trans z))
      rw [look_neg ne, valV_neg (p := (x, v)) e]
      exact look_rel inj k t
theorem put_old {k v : D} {kvs : List (D × D)} (h : ∃ e ∈ kvs, e.1 = k) : putD kvs k v = kvs.map fun e => @ite _ (e.1 = k) (Classical.propDecidable _) (e.1, v) e := by
  unfold putD
  rw [if_pos h]
theorem put_new {k v : D} {kvs : List (D × D)} (h : ¬ ∃ e ∈ kvs, e.1 = k) : putD kvs k v = kvs ++ [(k, v)] := by
  unfold putD
  rw [if_neg h]
theorem any_rel {κ : Type} [DecidableEq κ] {f : κ → D} (inj : ∀ a b, f a = f b → a = b) {H : Hp} (k : κ) : ∀ {ks : List (κ × V)} {kvs : List (D × D)}, Paired (fun x (y : D × D) => f x.1 = y.1 ∧ Rp H x.2 y.2) ks kvs →
    ((ks.any fun kv => decide (kv.1 = k)) = true ↔ ∃ e ∈ kvs, e.1 = f k)
  | _, _, .nil => by simp
  | (x, v) :: ks, (y, d) :: kvs, .cons h t => by
    obtain ⟨h1, h2⟩ := h
    have h1 : f x = y := h1
    subst h1
    have ih := any_rel inj k t
    rw [List.any_cons, Bool.or_eq_true, ih]
    constructor
    · rintro (a | ⟨e, m, q⟩)
      · have a : x = k := of_decide_eq_true a
        subst a
        exact ⟨_, List.mem_cons_self, rfl⟩
      · exact ⟨e, List.mem_cons_of_mem _ m, q⟩
    · rintro ⟨e, m, q⟩
      rcases List.mem_cons.mp m with z | z
      · subst z
        exact .inl (decide_eq_true (inj _ _ q))
      · exact .inr ⟨e, z, q⟩
theorem put_rel {κ : Type} [DecidableEq κ] {f : κ → D} (inj : ∀ a b, f a = f b → a = b) {H : Hp} (k : κ) {v : V} {d : D} (r : Rp H v d) {ks : List (κ × V)} {kvs : List (D × D)} (h : Paired (fun x (y : D × D) => f x.1 = y.1 ∧ Rp H x.2 y.2) ks kvs) :
    Paired (fun x (y : D × D) => f x.1 = y.1 ∧ Rp H x.2 y.2) (putK ks k v) (putD kvs (f k) d) := by
  have a := any_rel inj k h
  unfold putK
  by_cases c : ∃ e ∈ kvs, e.1 = f k
  · rw [if_pos (a.mpr c), put_old c]
    clear a c
    induction h with
    | nil => exact .nil
    | @cons p q ps qs h t ih =>
      obtain ⟨x, v'⟩ := p
      obtain ⟨y, d'⟩ := q
      obtain ⟨h1, h2⟩ := h
      have h1 : f x = y := h1
      subst h1
      rw [List.map_cons, List.map_cons]
      refine .cons ?_ ih
      by_cases e : x = k
      · subst e
        rw [if_pos rfl, if_pos rfl]
        exact ⟨rfl, r⟩
      · rw [if_neg e, if_neg (fun z => e (inj _ _ z))]
        exact ⟨rfl, h2⟩
  · rw [if_neg (fun z => c (a.mp z)), put_new c]
    exact Paired.snoc h ⟨rfl, r⟩
theorem isKey_of {d : D} (h : isKey d = true) : ∃ k, d = keyD k := by
  cases d <;> first | exact ⟨.inl _, rfl⟩ | exact ⟨.inr _, rfl⟩ | cases h
theorem keys_of {H : Hp} : ∀ {vs : List V} {ds : List D}, RpA H vs ds → ds.all isKey = true → ∃ ks : List Key, ds = ks.map keyD ∧ vs = ks.map kV
  | _, _, .nil, _ => ⟨[], rfl, rfl⟩
  | v :: vs, d :: ds, .cons r q, h => by
    rw [List.all_cons, Bool.and_eq_true] at h
    obtain ⟨ks, e1, e2⟩ := keys_of q h.2
    obtain ⟨k, e⟩ := isKey_of h.1
    subst e
    have ev : v = kV k := by
      cases k <;> (cases r; rfl)
    exact ⟨k :: ks, by rw [e1] <;> rfl, by rw [e2, ev] <;> rfl⟩
/-- what a key is, as a value -/
theorem key_cases {H : Hp} {t : Bool} {d : D} {v : V} (r : Rp H v d) (h : keyOk t d = true) :
    (t = false ∧ ∃ k : Key, d = keyD k ∧ v = kV k) ∨ (t = true ∧ ∃ (b : Addr) (ks : List Key), d = .tuple (ks.map keyD) ∧ v = .ref b ∧ H b = some (.tup (ks.map kV))) := by
  cases t with
  | false =>
    refine .inl ⟨rfl, ?_⟩
    cases d <;> first | (cases r; exact ⟨.inl _, rfl, rfl⟩) | (cases r; exact ⟨.inr _, rfl, rfl⟩) | cases h
  | true =>
    refine .inr ⟨rfl, ?_⟩
    cases r with
    | tup e r =>
      obtain ⟨ks, e1, e2⟩ := keys_of r h
      subst e1 e2
      exact ⟨_, ks, rfl, rfl, e⟩
    | _ => cases h
theorem tupD_inj (a b : List Key) (h : PyData.tuple (a.map keyD) = PyData.tuple (b.map keyD)) : a = b := keysD_inj (PyData.tuple.inj h)
theorem DiOk.get {w : Wd} {p : Addr} {t : Bool} {kvs : List (D × D)} {d : D} {v : V} (ok : w.Ok) (h : DiOk w p t kvs) (r : Rp w.f v d) (hk : keyOk t d = true) :
    ∃ o, DGet w.h p v o ∧ ((lookD kvs d = none ∧ o = none) ∨ ∃ x y, lookD kvs d = some x ∧ o = some y ∧ Rp w.f y x) := by
  rcases key_cases r hk with ⟨e, k, e1, e2⟩ | ⟨e, b, ks, e1, e2, e3⟩
  · subst e e1 e2
    obtain ⟨es, h1, h2⟩ := h
    refine ⟨_, DGet.k h1, ?_⟩
    rcases look_rel (fun a b => keyD_inj) k h2 with ⟨q1, q2⟩ | ⟨x, y, q1, q2, q3⟩
    · exact .inl ⟨q1, q2⟩
    · exact .inr ⟨x, y, q1, q2, q3⟩
  · subst e e1 e2
    obtain ⟨es, h1, h2⟩ := h
    refine ⟨_, DGet.t h1 (ok.fh _ _ e3), ?_⟩
    rcases look_rel (f := fun ks : List Key => PyData.tuple (ks.map keyD)) tupD_inj ks h2 with ⟨q1, q2⟩ | ⟨x, y, q1, q2, q3⟩
    · exact .inl ⟨q1, q2⟩
    · exact .inr ⟨x, y, q1, q2, q3⟩
theorem KV.lenP {α β : Type} {F : α → β → Prop} {l : List α} {m : List β} (h : Paired F l m) : l.length = m.length := Paired.length h
/-- d[k] = v -/
theorem DiOk.put {w : Wd} {p : Addr} {t : Bool} {kvs : List (D × D)} {d x : D} {v y : V} (ok : w.Ok) (h : DiOk w p t kvs) (r : Rp w.f v d) (hk : keyOk t d = true) (ry : Rp w.f y x) (hl : kvs.length < sizeLine) :
    ∃ o, DPut w.h p v y (upd w.h p o) ∧ DiOk ⟨w.f, w.b, upd w.h p o⟩ p t (putD kvs d x) := by
  rcases key_cases r hk with ⟨e, k, e1, e2⟩ | ⟨e, b, ks, e1, e2, e3⟩
  · subst e e1 e2
    obtain ⟨es, h1, h2⟩ := h
    exact ⟨_, DPut.k h1 (by rw [KV.lenP h2]; exact hl), _, upd_same, put_rel (fun a b => keyD_inj) k ry h2⟩
  · subst e e1 e2
    obtain ⟨es, h1, h2⟩ := h
    exact ⟨_, DPut.t h1 (ok.fh _ _ e3) (by rw [KV.lenP h2]; exact hl), _, upd_same, put_rel (f := fun ks : List Key => PyData.tuple (ks.map keyD)) tupD_inj ks ry h2⟩
theorem putD_len (kvs : List (D × D)) (k v : D) : (putD kvs k v).length ≤ kvs.length + 1 := by
  by_cases c : ∃ e ∈ kvs, e.1 = k
  · rw [put_old c, List.length_map]
    omega
  · rw [put_new c, List.length_append]
    simp

/-! ### comparisons -/
section
variable {X : Cx} {T : Tb} {k : Nat} {Γ : List Spc} {sc : Scope} {pos : Pos} {K : PySem.W.Frag}
def rEqA (K : PySem.W.Frag) : R2 := fun x y H Q => rEq x y H Q ∨ rEqD K x y H Q
def rNeA (K : PySem.W.Frag) : R2 := fun x y H Q => rNe x y H Q ∨ rNeD K x y H Q
theorem dV_int (i j : Int) : decide (V.int i = V.int j) = decide (i = j) := by
  by_cases e : i = j
  · subst e
    simp
  · rw [decide_eq_false e, decide_eq_false (fun z => e (V.int.inj z))]
theorem dV_str (i j : Str) : decide (V.str i = V.str j) = decide (i = j) := by
  by_cases e : i = j
  · subst e
    simp
  · rw [decide_eq_false e, decide_eq_false (fun z => e (V.str.inj z))]
theorem sh_int (i : Int) : SeqAt.shaped (.int i) = true := by
  simp [SeqAt.shaped, PyData.canLay0, PyData.depth]
theorem sh_bool (i : Bool) : SeqAt.shaped (.bool i) = true := by
  simp [SeqAt.shaped, PyData.canLay0, PyData.depth]
theorem sh_none : SeqAt.shaped .none = true := by
  simp [SeqAt.shaped, PyData.canLay0, PyData.depth]
theorem c_eq : RR K (opC .eq) (rEqA K) := by
  intro w0 w x y a b P Q ok e ha hb hs hq
  have da := VOk.dp ok ha
  have db := VOk.dp ok hb
  obtain ⟨kx, dx⟩ := x
  obtain ⟨ky, dy⟩ := y
  unfold opC at hs
  split at hs <;> first | contradiction | skip
  · rename_i i j _ e1 e2
    have e1 : dx = .int i := e1
    have e2 : dy = .int j := e2
    subst e1 e2
    rw [ha.int, hb.int]
    exact .inl ⟨rfl, by rw [dV_int]; exact hq _ w _ hs (Ext.refl ok) (Rp.bl _)⟩
  · rename_i i j _ e1 e2
    have e1 : dx = .str i := e1
    have e2 : dy = .str j := e2
    subst e1 e2
    rw [ha.str, hb.str]
    exact .inl ⟨rfl, by rw [dV_str]; exact hq _ w _ hs (Ext.refl ok) (Rp.bl _)⟩
  · exact .inr ⟨_, _, da, db, hs.1, hs.2.1, hq _ w _ hs.2.2 (Ext.refl ok) (Rp.bl _)⟩
theorem c_ne : RR K (opC .ne) (rNeA K) := by
  intro w0 w x y a b P Q ok e ha hb hs hq
  have da := VOk.dp ok ha
  have db := VOk.dp ok hb
  obtain ⟨kx, dx⟩ := x
  obtain ⟨ky, dy⟩ := y
  unfold opC at hs
  split at hs <;> first | contradiction | skip
  · rename_i i j _ e1 e2
    have e1 : dx = .int i := e1
    have e2 : dy = .int j := e2
    subst e1 e2
    rw [ha.int, hb.int]
    exact .inl ⟨rfl, by rw [dV_int]; exact hq _ w _ hs (Ext.refl ok) (Rp.bl _)⟩
  · rename_i i j _ e1 e2
    have e1 : dx = .str i := e1
    have e2 : dy = .str j := e2
    subst e1 e2
    rw [ha.str, hb.str]
    exact .inl ⟨rfl, by rw [dV_str]; exact hq _ w _ hs (Ext.refl ok) (Rp.bl _)⟩
  · exact .inr ⟨_, _, da, db, hs.1, hs.2.1, hq _ w _ hs.2.2 (Ext.refl ok) (Rp.bl _)⟩
theorem rr_cmp {sem : Res → Res → Post → Prop} {g : Int → Int → Bool} (h : ∀ x y P, sem x y P → ∃ i j, x.2 = .int i ∧ y.2 = .int j ∧ P (.cl, .bool (g i j))) : RR K sem (rI0 fun i j => .bl (g i j)) := by
  intro w0 w x y a b P Q ok e ha hb hs hq
  obtain ⟨i, j, ex, ey, hp⟩ := h x y P hs
  obtain ⟨kx, dx⟩ := x
  obtain ⟨ky, dy⟩ := y
  subst ex ey
  exact ⟨i, j, ha.int, hb.int, hq _ w _ hp (Ext.refl ok) (Rp.bl _)⟩
theorem c_lt : RR K (opC .lt) (rI0 fun i j => .bl (decide (i < j))) := by
  refine rr_cmp fun x y P h => ?_
  unfold opC at h
  split at h <;> first | contradiction | (rename_i e1 e2; exact ⟨_, _, e1, e2, h⟩)
theorem c_le : RR K (opC .le) (rI0 fun i j => .bl (decide (i ≤ j))) := by
  refine rr_cmp fun x y P h => ?_
  unfold opC at h
  split at h <;> first | contradiction | (rename_i e1 e2; exact ⟨_, _, e1, e2, h⟩)
theorem c_gt : RR K (opC .gt) (rI0 fun i j => .bl (decide (j < i))) := by
  refine rr_cmp fun x y P h => ?_
  unfold opC at h
  split at h <;> first | contradiction | (rename_i e1 e2; exact ⟨_, _, e1, e2, h⟩)
theorem c_ge : RR K (opC .ge) (rI0 fun i j => .bl (decide (j ≤ i))) := by
  refine rr_cmp fun x y P h => ?_
  unfold opC at h
  split at h <;> first | contradiction | (rename_i e1 e2; exact ⟨_, _, e1, e2, h⟩)
theorem c_in : RR K (opC .isin) (rInD K) := by
  intro w0 w x y a b P Q ok e ha hb hs hq
  have da := VOk.dp ok ha
  have db := VOk.dp ok hb
  obtain ⟨kx, dx⟩ := x
  obtain ⟨ky, dy⟩ := y
  unfold opC at hs
  split at hs <;> first | contradiction | skip
  rename_i ds _ e2
  have e2 : dy = .list ds := e2
  subst e2
  exact ⟨_, _, da, db, hs.1, hs.2.1, hq _ w _ hs.2.2 (Ext.refl ok) (Rp.bl _)⟩
theorem c_notin : RR K (opC .notin) (rNotInD K) := by
  intro w0 w x y a b P Q ok e ha hb hs hq
  have da := VOk.dp ok ha
  have db := VOk.dp ok hb
  obtain ⟨kx, dx⟩ := x
  obtain ⟨ky, dy⟩ := y
  unfold opC at hs
  split at hs <;> first | contradiction | skip
  rename_i ds _ e2
  have e2 : dy = .list ds := e2
  subst e2
  exact ⟨_, _, da, db, hs.1, hs.2.1, hq _ w _ hs.2.2 (Ext.refl ok) (Rp.bl _)⟩
/-- a comparison, over lists or over a dict of the def's own: what is wanted of it goes one of two ways -/
theorem cmp_way {o : Co} {ea eb : Ex} {σ : L2.St} {H : Hp} {Q : VK} (h : rd K (E Γ (.cmp o ea eb)) σ H Q) :
    rd K (fun ρ P => E Γ ea ρ fun x => E Γ eb ρ fun y => opC o x y P) σ H Q ∨
    ∃ i, eb = .var i ∧ rd K (fun ρ P => E Γ ea ρ fun x => ∃ t kvs, ρ[i]? = some (.od t kvs) ∧ opCd o t kvs x P) σ H Q := by
  obtain ⟨B, w, ρ, rfl, s, q⟩ := h
  simp only [E] at q
  cases c : odAt eb ρ with
  | none =>
    rw [c] at q
    exact .inl ⟨B, w, ρ, rfl, s, q⟩
  | some z =>
    rw [c] at q
    obtain ⟨t, kvs⟩ := z
    unfold odAt at c
    cases eb with
    | var i =>
      refine .inr ⟨i, rfl, B, w, ρ, rfl, s, E.mono ea (fun x q => ⟨t, kvs, ?_, q⟩) q⟩
      simp only at c
      split at c
      · rename_i e
        rw [e]
        cases c
        rfl
      · cases c
    | _ => cases c
theorem cmp_dict {o : Co} {ea : Ex} {i : Nat} {σ : L2.St} {H : Hp} {Q : VK} (neg : Bool) (ho : o = if neg then .notin else .isin)
    (h : rd K (fun ρ P => E Γ ea ρ fun x => ∃ t kvs, ρ[i]? = some (.od t kvs) ∧ opCd o t kvs x P) σ H Q) :
    rd K (E Γ ea) σ H fun y H1 => tVar i σ H1 fun x H2 => ∃ a r, x = .ref a ∧ DGet H2 a y r ∧ Q (.bl (if neg then !r.isSome else r.isSome)) H2 := by
  obtain ⟨B, w, ρ, rfl, s, q⟩ := h
  refine rd_go s (E.mono ea (fun x q w1 v1 e1 o1 => ?_) q)
  obtain ⟨t, kvs, hi, q⟩ := q
  obtain ⟨u, hu, p, eu, hb, hd⟩ := (s.grow e1).sl i _ hi
  subst eu
  refine ⟨.ref p, hu, ?_⟩
  have key : ∃ r, DGet w1.h p v1 r ∧ r.isSome = (lookD kvs x.2).isSome := by
    have hc : x.1 = .cl ∧ keyOk t x.2 = true := by
      unfold opCd at q
      split at q <;> first | exact ⟨q.1, q.2.1⟩ | exact q.elim
    obtain ⟨kx, dx⟩ := x
    obtain ⟨c1, c2⟩ := hc
    have c1 : kx = .cl := c1
    subst c1
    obtain ⟨r, g, z⟩ := hd.get e1.ok o1 c2
    refine ⟨r, g, ?_⟩
    rcases z with ⟨z1, z2⟩ | ⟨d, y, z1, z2, _⟩
    · rw [z1, z2] <;> rfl
    · rw [z1, z2] <;> rfl
  obtain ⟨r, g, er⟩ := key
  refine ⟨p, r, rfl, g, ?_⟩
  rw [er]
  subst ho
  cases neg with
  | false => exact q.2.2 w1 _ e1 (Rp.bl _)
  | true => exact q.2.2 w1 _ e1 (Rp.bl _)
/-- the value's reading, told as a test -/
theorem test_of {T : Env' → Post → Prop} (m : MonP T) {σ : L2.St} {H : Hp} {Q : Bool → Hp → Prop} (h : rdT K (fun ρ P => T ρ (boolQ P)) σ H Q) : rd K T σ H fun v H' => ∃ c, v = .bl c ∧ Q c H' := by
  obtain ⟨B, w, ρ, rfl, s, q⟩ := h
  refine rd_go s (m _ _ _ (fun r q w' v e o => ?_) q)
  obtain ⟨c, e1, q⟩ := q
  obtain ⟨kd, d⟩ := r
  have e1 : d = .bool c := e1
  subst e1
  exact ⟨c, o.bool, q w' e⟩
theorem e_cmp0 {a b : Expr} {ea eb : Ex} {op : CmpOp} {o : Co} {r : R2} (ho : OpR X (compareOp op) r) (hr : RR X.K (opC o) r) (hm : behindInMarks op b = false) (nd : ∀ t kvs x P, ¬ opCd o t kvs x P)
    (ha : PE X a (rd X.K (E Γ ea))) (hb : PE X b (rd X.K (E Γ eb))) :
    PE X (.Compare a [op] [b] pos) (rd X.K (E Γ (.cmp o ea eb))) ∧ PT X (.Compare a [op] [b] pos) (rdT X.K fun ρ P => E Γ (.cmp o ea eb) ρ (boolQ P)) := by
  have go : ∀ σ H (Q : VK), rd X.K (E Γ (.cmp o ea eb)) σ H Q → tOp r (rd X.K (E Γ ea)) (rd X.K (E Γ eb)) σ H Q := fun σ H Q h => by
    rcases cmp_way h with h | ⟨i, _, h⟩
    · exact tOp_rd (monE ea) (monE eb) hr h
    · obtain ⟨B, w, ρ, rfl, s, q⟩ := h
      refine rd_go s (E.mono ea (fun x q => ?_) q)
      obtain ⟨t, kvs, _, q⟩ := q
      exact (nd t kvs x _ q).elim
  exact ⟨pe_imp (pe_cmpR ho ha hb hm) go, pt_imp (pt_cmpR ho ha hb hm) fun σ H Q h => go σ H _ (test_of (monE _) h)⟩
theorem e_cmp_in {a : Expr} {x : Str} {ea : Ex} {i : Nat} {pos' : Pos} (neg : Bool) (hu : X.A.units + 65 < cLine) (hN : X.N[i]? = some x) (hv : Vis X.env.scope x) (h1 : (x == ("__debug__" : Str)) = false) (h2 : (x == ("__classdict__" : Str)) = false)
    (ha : PE X a (rd X.K (E Γ ea))) (hb : PE X (.Name x pos') (rd X.K (E Γ (.var i)))) :
    PE X (.Compare a [if neg then .NotIn else .In] [.Name x pos'] pos) (rd X.K (E Γ (.cmp (if neg then .notin else .isin) ea (.var i)))) ∧
    PT X (.Compare a [if neg then .NotIn else .In] [.Name x pos'] pos) (rdT X.K fun ρ P => E Γ (.cmp (if neg then .notin else .isin) ea (.var i)) ρ (boolQ P)) := by
  have pd : PE X (.Name x pos') (tVar i) := pe_var hN hv h1 h2
  cases neg with
  | false =>
    have c1 := pc_din (by omega) ha pd
    have go : ∀ σ H (Q : VK), rd X.K (E Γ (.cmp .isin ea (.var i))) σ H Q → tOp (rInD X.K) (rd X.K (E Γ ea)) (rd X.K (E Γ (.var i))) σ H Q ∨ tDIn (rd X.K (E Γ ea)) (tVar i) σ H Q := fun σ H Q h => by
      rcases cmp_way h with h | ⟨j, ej, h⟩
      · exact .inl (tOp_rd (monE ea) (monE _) c_in h)
      · cases ej
        exact .inr (cmp_dict false rfl h)
    exact ⟨pe_imp (pe_or2 (pe_cmpR (op_inD hu) ha hb rfl) (pe_cmp c1 rfl)) go, pt_imp (pt_or2 (pt_cmpR (op_inD hu) ha hb rfl) (pt_cmp c1 rfl)) fun σ H Q h => go σ H _ (test_of (monE _) h)⟩
  | true =>
    have c1 := pc_dnotin (by omega) ha pd
    have go : ∀ σ H (Q : VK), rd X.K (E Γ (.cmp .notin ea (.var i))) σ H Q → tOp (rNotInD X.K) (rd X.K (E Γ ea)) (rd X.K (E Γ (.var i))) σ H Q ∨ tDNotIn (rd X.K (E Γ ea)) (tVar i) σ H Q := fun σ H Q h => by
      rcases cmp_way h with h | ⟨j, ej, h⟩
      · exact .inl (tOp_rd (monE ea) (monE _) c_notin h)
      · cases ej
        exact .inr (cmp_dict true rfl h)
    exact ⟨pe_imp (pe_or2 (pe_cmpR (op_notInD hu) ha hb rfl) (pe_cmp c1 rfl)) go, pt_imp (pt_or2 (pt_cmpR (op_notInD hu) ha hb rfl) (pt_cmp c1 rfl)) fun σ H Q h => go σ H _ (test_of (monE _) h)⟩
end
end Ir

set_option Elab.async false
set_option linter.all false
set_option maxRecDepth 100000
set_option maxHeartbeats 1000000
/-! Ir6: the other expressions. -/
namespace Ir
open PySem
open L2

section
variable {X : Cx} {T : Tb} {k : Nat} {Γ : List Spc} {sc : Scope} {pos : Pos} {K : PySem.W.Frag}
/-! ### is None, minus, not, and, or -/
theorem not_non {w0 w : Wd} {kd : Kd} {d : D} {v : V} (h : VOk K w0 w (kd, d) v) (n : d ≠ .none) : v ≠ .non := by
  intro e
  subst e
  by_cases c : ∃ ds, d = .list ds
  · obtain ⟨ds, e⟩ := c
    subst e
    cases kd with
    | fr =>
      obtain ⟨p, vs, _, _, e, _⟩ := h
      cases e
    | cl =>
      have h : Rp w.f .non (.list ds) := h
      cases h
    | sh =>
      obtain ⟨p, vs, _, _, e, _⟩ := h
      cases e
    | ow =>
      obtain ⟨p, vs, _, _, e, _⟩ := h
      cases e
    | sc =>
      obtain ⟨p, ns, _, e, _⟩ := h
      cases e
  · have q := h.flat fun ds e => c ⟨ds, e⟩
    cases q
    exact n rfl
theorem isn_way {ea : Ex} {neg : Bool} {σ : L2.St} {H : Hp} {Q : VK} (h : rd K (E Γ (.isn neg ea)) σ H Q) :
    rd K (E Γ ea) σ H fun x H1 => Q (.bl (if neg then !decide (x = .non) else decide (x = .non))) H1 := by
  obtain ⟨B, w, ρ, rfl, s, q⟩ := h
  simp only [E] at q
  refine rd_go s (E.mono ea (fun x q w1 v1 e1 o1 => ?_) q)
  obtain ⟨kd, d⟩ := x
  by_cases c : d = .none
  · subst c
    have ev : v1 = .non := VOk.non o1
    subst ev
    cases neg with
    | false => exact q w1 _ e1 (Rp.bl _)
    | true => exact q w1 _ e1 (Rp.bl _)
  · have nv : decide (v1 = .non) = false := decide_eq_false (not_non o1 c)
    rw [nv]
    have q' : ∀ w' v, Ext w w' → VOk K w w' (.cl, .bool neg) v → Q v w'.h := by
      cases d <;> first | exact q | exact absurd rfl c
    cases neg with
    | false => exact q' w1 _ e1 (Rp.bl _)
    | true => exact q' w1 _ e1 (Rp.bl _)
theorem e_isn {a : Expr} {ea : Ex} {j : Nat} {pos' : Pos} (ha : PE X a (rd X.K (E Γ ea))) :
    PE X (.Compare a [.Is] [.Constant .none j pos'] pos) (rd X.K (E Γ (.isn false ea))) ∧ PT X (.Compare a [.Is] [.Constant .none j pos'] pos) (rdT X.K fun ρ P => E Γ (.isn false ea) ρ (boolQ P)) := by
  have go : ∀ σ H (Q : VK), rd X.K (E Γ (.isn false ea)) σ H Q → tOp (fun x y H Q => y = .non ∧ Q (.bl (decide (x = .non))) H) (rd X.K (E Γ ea)) (tC .non) σ H Q := fun σ H Q h => by
    obtain ⟨B, w, ρ, rfl, s, q⟩ := isn_way h
    exact rd_go s (E.mono ea (fun r q w' v e o => ⟨rfl, q w' v e o⟩) q)
  exact ⟨pe_imp (pe_cmpR op_isN ha pe_non (nomark _)) go, pt_imp (pt_cmpR op_isN ha pe_non (nomark _)) fun σ H Q h => go σ H _ (test_of (monE _) h)⟩
theorem e_notn {a : Expr} {ea : Ex} {j : Nat} {pos' : Pos} (ha : PE X a (rd X.K (E Γ ea))) :
    PE X (.Compare a [.IsNot] [.Constant .none j pos'] pos) (rd X.K (E Γ (.isn true ea))) ∧ PT X (.Compare a [.IsNot] [.Constant .none j pos'] pos) (rdT X.K fun ρ P => E Γ (.isn true ea) ρ (boolQ P)) := by
  have go : ∀ σ H (Q : VK), rd X.K (E Γ (.isn true ea)) σ H Q → tOp (fun x y H Q => y = .non ∧ Q (.bl (!decide (x = .non))) H) (rd X.K (E Γ ea)) (tC .non) σ H Q := fun σ H Q h => by
    obtain ⟨B, w, ρ, rfl, s, q⟩ := isn_way h
    exact rd_go s (E.mono ea (fun r q w' v e o => ⟨rfl, q w' v e o⟩) q)
  exact ⟨pe_imp (pe_cmpR op_notN ha pe_non (nomark _)) go, pt_imp (pt_cmpR op_notN ha pe_non (nomark _)) fun σ H Q h => go σ H _ (test_of (monE _) h)⟩
theorem e_neg {a : Expr} {ea : Ex} (ha : PE X a (rd X.K (E Γ ea))) : PE X (.UnaryOp .USub a pos) (rd X.K (E Γ (.neg ea))) :=
  pe_imp (pe_un un_neg ha) fun σ H Q h => by
    obtain ⟨B, w, ρ, rfl, s, q⟩ := h
    refine rd_go s (E.mono ea (fun r q w' v e o => ?_) q)
    obtain ⟨n, e1, q⟩ := q
    obtain ⟨kd, d⟩ := r
    have e1 : d = .int n := e1
    subst e1
    exact ⟨n, o.int, q w' _ e (Rp.int _)⟩
theorem e_not {a : Expr} {ea : Ex} (ha : PE X a (rd X.K (E Γ ea))) : PE X (.UnaryOp .Not a pos) (rd X.K (E Γ (.not ea))) :=
  pe_imp (pe_not ha) fun σ H Q h => by
    obtain ⟨B, w, ρ, rfl, s, q⟩ := h
    refine rd_go s (E.mono ea (fun r q w' v e o => ?_) q)
    obtain ⟨c, e1, q⟩ := q
    obtain ⟨kd, d⟩ := r
    have e1 : d = .bool c := e1
    subst e1
    exact ⟨c, o.bool, q w' _ e (Rp.bl _)⟩
theorem e_and {a b : Expr} {rest : List Expr} {ea eb : Ex} (ha : PE X a (rd X.K (E Γ ea))) (hb : PE X (.BoolOp .And (b :: rest) pos) (rd X.K (E Γ eb))) : PE X (.BoolOp .And (a :: b :: rest) pos) (rd X.K (E Γ (.and ea eb))) :=
  pe_imp (pe_and ha hb) fun σ H Q h => by
    obtain ⟨B, w, ρ, rfl, s, q⟩ := h
    refine rd_go s (E.mono ea (fun r q w' v e o => ?_) q)
    obtain ⟨c, e1, q⟩ := q
    obtain ⟨kd, d⟩ := r
    have e1 : d = .bool c := e1
    subst e1
    refine ⟨c, o.bool, ?_⟩
    cases c with
    | true =>
      rw [if_pos rfl] at q ⊢
      exact rd_go (s.grow e) (E.mono eb (fun r q w2 v2 e2 o2 => q w2 v2 (e.trans e2) (o2.early e.h)) q)
    | false =>
      rw [if_neg (by decide)] at q ⊢
      exact q w' _ e (Rp.bl _)
theorem e_or {a b : Expr} {rest : List Expr} {ea eb : Ex} (ha : PE X a (rd X.K (E Γ ea))) (hb : PE X (.BoolOp .Or (b :: rest) pos) (rd X.K (E Γ eb))) : PE X (.BoolOp .Or (a :: b :: rest) pos) (rd X.K (E Γ (.or ea eb))) :=
  pe_imp (pe_or ha hb) fun σ H Q h => by
    obtain ⟨B, w, ρ, rfl, s, q⟩ := h
    refine rd_go s (E.mono ea (fun r q w' v e o => ?_) q)
    obtain ⟨c, e1, q⟩ := q
    obtain ⟨kd, d⟩ := r
    have e1 : d = .bool c := e1
    subst e1
    refine ⟨c, o.bool, ?_⟩
    cases c with
    | true =>
      rw [if_pos rfl] at q ⊢
      exact q w' _ e (Rp.bl _)
    | false =>
      rw [if_neg (by decide)] at q ⊢
      exact rd_go (s.grow e) (E.mono eb (fun r q w2 v2 e2 o2 => q w2 v2 (e.trans e2) (o2.early e.h)) q)
/-! tests -/
abbrev rt (K : PySem.W.Frag) (Γ : List Spc) (e : Ex) : TT := rdT K fun ρ P => E Γ e ρ (boolQ P)
theorem rt_go {e : Ex} {B : Bs} {w : Wd} {ρ : Env'} {σ : L2.St} {Q : Bool → Hp → Prop} (s : SR K B w ρ σ) (q : E Γ e ρ (boolQ fun k => ∀ w', Ext w w' → Q k w'.h)) : rt K Γ e σ w.h Q := ⟨B, w, ρ, rfl, s, q⟩
theorem t_not {a : Expr} {ea : Ex} (ha : PT X a (rt X.K Γ ea)) : PT X (.UnaryOp .Not a pos) (rt X.K Γ (.not ea)) :=
  pt_imp (pt_not ha) fun σ H Q h => by
    obtain ⟨B, w, ρ, rfl, s, q⟩ := h
    refine rt_go s (E.mono ea (fun r q => ?_) q)
    obtain ⟨c, e1, k2, e2, q⟩ := q
    refine ⟨c, e1, ?_⟩
    have e2 : (!c) = k2 := PyData.bool.inj e2
    subst e2
    exact q
theorem t_and {a b : Expr} {rest : List Expr} {ea eb : Ex} (ha : PT X a (rt X.K Γ ea)) (hb : PW X (.BoolOp .And (b :: rest) pos) (rt X.K Γ eb)) : PW X (.BoolOp .And (a :: b :: rest) pos) (rt X.K Γ (.and ea eb)) :=
  pw_imp (pw_and ha hb) fun σ H Q h => by
    obtain ⟨B, w, ρ, rfl, s, q⟩ := h
    show rt X.K Γ ea σ w.h fun c H1 => if c = true then rt X.K Γ eb σ H1 Q else Q false H1
    refine rt_go s (E.mono ea (fun r q => ?_) q)
    obtain ⟨c, e1, q⟩ := q
    refine ⟨c, e1, fun w' e => ?_⟩
    cases c with
    | true =>
      rw [if_pos rfl] at q ⊢
      exact rt_go (s.grow e) (E.mono eb (boolQ.mono fun k q w2 e2 => q w2 (e.trans e2)) q)
    | false =>
      rw [if_neg (by decide)] at q ⊢
      obtain ⟨k2, e2, q⟩ := q
      have e2 : false = k2 := PyData.bool.inj e2
      subst e2
      exact q w' e
theorem t_or {a b : Expr} {rest : List Expr} {ea eb : Ex} (ha : PT X a (rt X.K Γ ea)) (hb : PW X (.BoolOp .Or (b :: rest) pos) (rt X.K Γ eb)) : PW X (.BoolOp .Or (a :: b :: rest) pos) (rt X.K Γ (.or ea eb)) :=
  pw_imp (pw_or ha hb) fun σ H Q h => by
    obtain ⟨B, w, ρ, rfl, s, q⟩ := h
    show rt X.K Γ ea σ w.h fun c H1 => if c = true then Q true H1 else rt X.K Γ eb σ H1 Q
    refine rt_go s (E.mono ea (fun r q => ?_) q)
    obtain ⟨c, e1, q⟩ := q
    refine ⟨c, e1, fun w' e => ?_⟩
    cases c with
    | true =>
      rw [if_pos rfl] at q ⊢
      obtain ⟨k2, e2, q⟩ := q
      have e2 : true = k2 := PyData.bool.inj e2
      subst e2
      exact q w' e
    | false =>
      rw [if_neg (by decide)] at q ⊢
      exact rt_go (s.grow e) (E.mono eb (boolQ.mono fun k q w2 e2 => q w2 (e.trans e2)) q)
/-- a value's truth -/
theorem tru_data {w0 w : Wd} {r : Res} {v : V} (ok : w.Ok) (h : VOk K w0 w r v) (h1 : ∀ z, r.2 = .str z → z.length ≤ sizeLine) (h2 : ∀ z, r.2 ≠ .dict z) : TruV K v w.h (truth r.2) := by
  by_cases c : ∃ ds, r.2 = .list ds
  · obtain ⟨ds, e⟩ := c
    obtain ⟨p, vs, e1, e2, e3⟩ := h.list ok e
    subst e1
    rw [e]
    refine .inl ⟨vs, e2, ?_⟩
    show (!ds.isEmpty) = !vs.isEmpty
    cases e3 <;> rfl
  · have q := h.flat fun ds e => c ⟨ds, e⟩
    obtain ⟨kd, d⟩ := r
    have q : Rp w.f v d := q
    cases q with
    | non => exact rfl
    | bl b => exact rfl
    | int i => exact rfl
    | str z => exact ⟨h1 z rfl, rfl⟩
    | lst e r => exact absurd ⟨_, rfl⟩ c
    | tup e r =>
      refine .inr (.inl ⟨_, SqT.of (ok.fh _ _ e), ?_⟩)
      cases r <;> rfl
theorem t_tru {a : Expr} {ea : Ex} (ha : PE X a (rd X.K (E Γ ea))) (he : ∀ whole, isTrue a X.env whole = (do let v ← whole; standAt a.pos; holding [v] (truthy v))) : PT X a (rt X.K Γ (.tru ea)) :=
  pt_imp (pt_truth ha he) fun σ H Q h => by
    obtain ⟨B, w, ρ, rfl, s, q⟩ := h
    refine rd_go s (E.mono ea (fun r q w' v e o => ?_) q)
    obtain ⟨h1, h2, c, e1, q⟩ := q
    have e1 : truth r.2 = c := PyData.bool.inj e1
    subst e1
    exact ⟨_, tru_data e.ok o h1 h2, q w' e⟩

/-! ### index -/
def rIxA (K : PySem.W.Frag) : R2 := fun x y H Q => rIxL K x y H Q ∨ rIxT K x y H Q
theorem ix_any : IxR X (rIxA X.K) := ix_list.or ix_tup
theorem atI_rel {H : Hp} {vs : List V} {ds : List D} {i : Int} {d : D} (r : RpA H vs ds) (h : atI ds i = some d) : ∃ v, atI vs i = some v ∧ Rp H v d := by
  unfold atI at h ⊢
  rw [r.len]
  cases e : ixN ds.length i with
  | none => rw [e] at h; cases h
  | some j =>
    rw [e] at h
    exact r.at h
theorem x_ix : RR K opIx (rIxA K) := by
  intro w0 w x y a b P Q ok e ha hb hs hq
  obtain ⟨kx, dx⟩ := x
  obtain ⟨ky, dy⟩ := y
  unfold opIx at hs
  split at hs <;> first | contradiction | skip
  · rename_i ds i e1 e2
    have e1 : dx = .list ds := e1
    have e2 : dy = .int i := e2
    subst e1 e2
    obtain ⟨d, hd, hp⟩ := hs
    obtain ⟨p, vs, rfl, hp1, hr⟩ := ha.list ok rfl
    obtain ⟨v, hv, hrv⟩ := atI_rel hr hd
    exact .inl ⟨p, vs, i, v, rfl, hb.int, hp1, hv, hq _ w v hp (Ext.refl ok) hrv⟩
  · rename_i ds i e1 e2
    have e1 : dx = .tuple ds := e1
    have e2 : dy = .int i := e2
    subst e1 e2
    obtain ⟨d, hd, hp⟩ := hs
    obtain ⟨p, vs, rfl, hp1, hr⟩ := ha.tuple
    obtain ⟨v, hv, hrv⟩ := atI_rel hr hd
    exact .inr ⟨p, vs, i, v, rfl, hb.int, SqT.of (ok.fh _ _ hp1), hv, hq _ w v hp (Ext.refl ok) hrv⟩
theorem ix_way {ea eb : Ex} {σ : L2.St} {H : Hp} {Q : VK} (h : rd K (E Γ (.ix ea eb)) σ H Q) :
    rd K (fun ρ P => E Γ ea ρ fun x => E Γ eb ρ fun y => opIx x y P) σ H Q ∨
    ∃ i, ea = .var i ∧ tDGet (tVar i) (rd K (E Γ eb)) σ H Q := by
  obtain ⟨B, w, ρ, rfl, s, q⟩ := h
  simp only [E] at q
  cases c : odAt ea ρ with
  | none =>
    rw [c] at q
    exact .inl ⟨B, w, ρ, rfl, s, q⟩
  | some z =>
    rw [c] at q
    obtain ⟨t, kvs⟩ := z
    unfold odAt at c
    cases ea with
    | var i =>
      simp only at c
      split at c
      · rename_i t' kvs' hi
        cases c
        refine .inr ⟨i, rfl, ?_⟩
        obtain ⟨u, hu, p, eu, hb, hd⟩ := s.sl i _ hi
        subst eu
        refine ⟨.ref p, hu, rd_go s (E.mono eb (fun y q w1 v1 e1 o1 => ?_) q)⟩
        obtain ⟨c1, c2, d, c3, q⟩ := q
        obtain ⟨ky, dy⟩ := y
        have c1 : ky = .cl := c1
        subst c1
        obtain ⟨u', hu', p', eu', hb', hd'⟩ := (s.grow e1).sl i _ hi
        rw [hu] at hu'
        have ep : p = p' := by
          rw [eu'] at hu'
          exact V.ref.inj (Option.some.inj (Option.some.inj hu'))
        subst ep
        obtain ⟨r, g, z⟩ := hd'.get e1.ok o1 c2
        rcases z with ⟨z1, z2⟩ | ⟨d', y', z1, z2, z3⟩
        · rw [z1] at c3
          cases c3
        · rw [z1] at c3
          cases c3
          subst z2
          exact ⟨p, y', rfl, g, q w1 y' e1 z3⟩
      · cases c
    | _ => cases c
theorem e_ix {a b : Expr} {ea eb : Ex} (nv : ∀ i, ea ≠ .var i) (hs : PlainIx b) (ha : PE X a (rd X.K (E Γ ea))) (hb : PE X b (rd X.K (E Γ eb))) : PE X (.Subscript a b pos) (rd X.K (E Γ (.ix ea eb))) :=
  pe_imp (pe_ix ix_any ha hb hs) fun σ H Q h => by
    rcases ix_way h with h | ⟨i, e, _⟩
    · exact tOp_rd (monE ea) (monE eb) x_ix h
    · exact absurd e (nv i)
theorem e_ixv {x : Str} {b : Expr} {i : Nat} {eb : Ex} {pos' : Pos} (hu : X.A.units + 65 < cLine) (hN : X.N[i]? = some x) (hv : Vis X.env.scope x) (h1 : (x == ("__debug__" : Str)) = false) (h2 : (x == ("__classdict__" : Str)) = false) (hs : PlainIx b)
    (hb : PE X b (rd X.K (E Γ eb))) : PE X (.Subscript (.Name x pos') b pos) (rd X.K (E Γ (.ix (.var i) eb))) := by
  have pd : PE X (.Name x pos') (tVar i) := pe_var hN hv h1 h2
  refine pe_imp (pe_or2 (pe_ix ix_any (e_var (Γ := Γ) hN hv h1 h2) hb hs) (pe_dget (by omega) pd hb hs)) fun σ H Q h => ?_
  rcases ix_way h with h | ⟨j, e, h⟩
  · exact .inl (tOp_rd (monE _) (monE eb) x_ix h)
  · cases e
    exact .inr h

/-! ### arguments, displays -/
theorem a_nil : PA X [] (rdA X.K (Es Γ .nil)) := pa_imp pa_nil fun σ H Q h => by
  obtain ⟨B, w, ρ, rfl, s, q⟩ := h
  exact q w [] (Ext.refl s.ok) .nil
theorem a_cons {e : Expr} {es : List Expr} {e' : Ex} {es' : Exs} (hh : hd e = true) (ha : PE X e (rd X.K (E Γ e'))) (hr : PA X es (rdA X.K (Es Γ es'))) : PA X (e :: es) (rdA X.K (Es Γ (.cons e' es'))) :=
  pa_imp (pa_cons ha hr (star_hd hh)) fun σ H Q h => by
    obtain ⟨B, w, ρ, rfl, s, q⟩ := h
    refine rd_go s (E.mono e' (fun r q w1 v1 e1 o1 => ?_) q)
    obtain ⟨w2, h2, e2, o2⟩ := o1.arg e1
    rw [← h2]
    refine rdA_go (s.grow e2) (Es.mono es' (fun rs q w3 vs e3 o3 => ?_) q)
    exact q w3 (v1 :: vs) (e2.trans e3) (.cons (o2.ext e2.ok e3) o3)
theorem allCl_rp {w : Wd} : ∀ {rs : List Res} {vs : List V} {ds : List D}, AOks K w rs vs → allCl rs = some ds → RpA w.f vs ds
  | _, _, _, .nil, h => by
    cases h
    exact .nil
  | r :: rs, v :: vs, ds, .cons o os, h => by
    unfold allCl at h
    cases c : toCl r with
    | none => rw [c] at h; cases h
    | some d =>
      cases c2 : allCl rs with
      | none => rw [c, c2] at h; cases h
      | some ds' =>
        rw [c, c2] at h
        cases h
        exact .cons (o.clean c) (allCl_rp os c2)
theorem e_lst {es : List Expr} {as : Exs} (ha : PA X es (rdA X.K (Es Γ as))) : PE X (.List es pos) (rd X.K (E Γ (.lst as))) :=
  pe_imp (pe_lst ha) fun σ H Q h => by
    obtain ⟨B, w, ρ, rfl, s, q⟩ := h
    refine rdA_go s (Es.mono as (fun rs q w1 vs e1 o1 => ?_) q)
    obtain ⟨ds, c, z, q⟩ := q
    have r := allCl_rp o1 c
    exact ⟨by rw [r.len]; exact z, new_fr (P := fun r => ∀ w' v, Ext w w' → VOk X.K w w' r v → Q v w'.h) e1.ok r q fun z w' v p e o => p w' v (e1.trans e) (o.early e1.h)⟩
theorem e_tup {es : List Expr} {as : Exs} {j : Nat} (ha : PA X es (rdA X.K (Es Γ as))) : PE X (.Tuple es j pos) (rd X.K (E Γ (.tup as))) :=
  pe_imp (pe_tup ha) fun σ H Q h => by
    obtain ⟨B, w, ρ, rfl, s, q⟩ := h
    refine rdA_go s (Es.mono as (fun rs q w1 vs e1 o1 => ?_) q)
    obtain ⟨ds, c, z, q⟩ := q
    have r := allCl_rp o1 c
    exact ⟨by rw [r.len]; exact z, new_tu (P := fun r => ∀ w' v, Ext w w' → VOk X.K w w' r v → Q v w'.h) e1.ok r q fun z w' v p e o => p w' v (e1.trans e) (o.early e1.h)⟩

/-! ### slices -/
def rdO (K : PySem.W.Frag) (T : Env' → (List Res → Prop) → Prop) : TO := fun σ H Q => ∃ B w ρ, w.h = H ∧ SR K B w ρ σ ∧ T ρ fun rs => ∃ o, optI rs = some o ∧ ∀ w', Ext w w' → Q o w'.h
theorem o_none : PO X none (rdO X.K (Es Γ .nil)) := ⟨fun pins s σ H Q I h => by
  obtain ⟨B, w, ρ, rfl, s', o, e, q⟩ := h
  cases e
  exact po_none.run pins s σ w.h Q I (q w (Ext.refl s'.ok))⟩
theorem o_some {e : Expr} {e' : Ex} (he : PE X e (rd X.K (E Γ e'))) : PO X (some e) (rdO X.K (Es Γ (.cons e' .nil))) := ⟨fun pins s σ H Q I h => by
  refine (po_some he).run pins s σ H Q I ?_
  obtain ⟨B, w, ρ, rfl, s', q⟩ := h
  refine rd_go s' (E.mono e' (fun r q w' v e o => ?_) q)
  obtain ⟨p, e1, q⟩ := q
  obtain ⟨kd, d⟩ := r
  unfold optI at e1
  split at e1
  · rename_i z
    cases z
  · rename_i kd' i z
    cases z
    cases e1
    exact ⟨i, o.int, q w' e⟩
  · cases e1⟩
theorem cut_rel {H : Hp} {vs : List V} {ds : List D} (r : RpA H vs ds) (lo hi : Option Int) : RpA H (cutV vs lo hi) (cutG ds lo hi) := by
  unfold cutV cutG
  rw [r.len]
  exact (r.drop _).take _
theorem e_sl {a : Expr} {lo hi : Option Expr} {ea : Ex} {l h : Exs} {p2 : Pos} (ha : PE X a (rd X.K (E Γ ea))) (hl : PO X lo (rdO X.K (Es Γ l))) (hh : PO X hi (rdO X.K (Es Γ h))) :
    PE X (.Subscript a (.Slice lo hi none p2) pos) (rd X.K (E Γ (.sl ea l h))) :=
  pe_imp (pe_slice (sl_list.or sl_tupA) ha hl hh) fun σ H Q hq => by
    obtain ⟨B, w, ρ, rfl, s, q⟩ := hq
    refine rd_go s (E.mono ea (fun x q w1 v1 e1 o1 => ?_) q)
    refine ⟨B, w1, ρ, rfl, s.grow e1, Es.mono l (fun l' q => ?_) q⟩
    obtain ⟨o, c1, q⟩ := q
    refine ⟨o, c1, fun w2 e2 => ⟨B, w2, ρ, rfl, (s.grow e1).grow e2, Es.mono h (fun h' q => ?_) q⟩⟩
    obtain ⟨o2, c2, q4⟩ := q
    clear q
    refine ⟨o2, c2, fun w3 e3 => ?_⟩
    have e13 : Ext w1 w3 := e2.trans e3
    have e03 : Ext w w3 := e1.trans e13
    have o3 := o1.mono e1.ok e13
    obtain ⟨kx, dx⟩ := x
    unfold opSl at q4
    split at q4 <;> first | contradiction | skip
    · rename_i ds ez
      have ez : dx = .list ds := ez
      subst ez
      obtain ⟨p, vs, rfl, hp, hr⟩ := o3.list e3.ok rfl
      refine .inl ⟨p, vs, rfl, hp, ?_⟩
      exact new_fr (P := fun r => ∀ w' v, Ext w w' → VOk X.K w w' r v → Q v w'.h) e3.ok (cut_rel hr o o2) q4 fun z w' v p e o => p w' v (e03.trans e) (o.early e03.h)
    · rename_i ds ez
      have ez : dx = .tuple ds := ez
      subst ez
      obtain ⟨p, vs, rfl, hp, hr⟩ := o3.tuple
      refine .inr ⟨p, vs, rfl, SqT.of (e3.ok.fh _ _ hp), fun z => ?_, fun _ => ?_⟩
      · have ec : cutG ds o o2 = ds := by
          unfold cutG
          rw [← hr.len, z.1, z.2, List.drop_zero, Nat.sub_zero, hr.len, List.take_length]
        rw [ec] at q4
        exact q4 w3 _ e03 (Rp.tup hp hr)
      · exact new_tu (P := fun r => ∀ w' v, Ext w w' → VOk X.K w w' r v → Q v w'.h) e3.ok (cut_rel hr o o2) q4 fun z w' v p e o => p w' v (e03.trans e) (o.early e03.h)
end
end Ir

set_option Elab.async false
set_option linter.all false
set_option maxRecDepth 100000
set_option maxHeartbeats 1000000
/-! Ir7: calls of own defs and of built-ins. -/
namespace Ir
open PySem
open L2

section
variable {X : Cx} {T : Tb} {k : Nat} {Γ : List Spc} {sc : Scope} {pos p : Pos} {K : PySem.W.Frag}
/-! ### own defs -/
theorem args_rep {w : Wd} (ok : w.Ok) : ∀ {rs : List Res} {vs : List V} {as : List Arg}, AOks K w rs vs → argsOk rs as → ArgsRep K w.f w.h as vs
  | _, _, [], .nil, _ => .nil
  | _, _, _ :: _, .nil, h => h.elim
  | _, _, [], .cons _ _, h => h.elim
  | r :: rs, v :: vs, a :: as, .cons o os, h => by
    refine .cons ?_ (args_rep ok os h.2)
    have h1 := h.1
    cases a with
    | cl d => exact .cl (o.clean h1)
    | sh ds =>
      obtain ⟨kd, d⟩ := r
      obtain ⟨h1, h2⟩ := h1
      have h2 : d = .list ds := h2
      subst h2
      obtain ⟨q, vs', rfl, e1, e2⟩ := VOk.tracked (K := K) (w0 := w) (r := (aK kd, .list ds)) ok o rfl (fun z => by
        have z : aK kd = .sc := z
        cases kd <;> first | exact h1 rfl | (simp [aK] at z))
      exact .sh e1 e2
    | sc ns =>
      obtain ⟨kd, d⟩ := r
      obtain ⟨h1, h2⟩ := h1
      have h1 : kd = .sc := h1
      have h2 : d = .list (ns.map .int) := h2
      subst h1 h2
      obtain ⟨q, ns', e1, e2, e3⟩ := o
      have e1 : PyData.list (ns.map PyData.int) = .list (ns'.map PyData.int) := e1
      have en : ns = ns' := by
        have e4 := PyData.list.inj e1
        exact (List.map_inj_right (fun a b z => PyData.int.inj z)).mp e4
      subst en e2
      exact .sc (Same.seqL ok.bh e3)
/-- the caller's world behind a call -/
def joinB (w1 wc : Wd) : Wd := ⟨wc.f, fun a => if (w1.h a).isSome = true then w1.b a else wc.b a, wc.h⟩
theorem join_some {w1 wc : Wd} {a : Addr} (h : w1.h a ≠ none) : (joinB w1 wc).b a = w1.b a := by
  show (if (w1.h a).isSome = true then w1.b a else wc.b a) = _
  rw [if_pos (Option.isSome_iff_ne_none.mpr h)]
theorem join_none {w1 wc : Wd} {a : Addr} (h : w1.h a = none) : (joinB w1 wc).b a = wc.b a := by
  show (if (w1.h a).isSome = true then w1.b a else wc.b a) = _
  rw [h] <;> rfl
theorem join_ext {w1 wc : Wd} (ok : w1.Ok) (e : Ext ⟨w1.f, w1.h, w1.h⟩ wc) : Ext w1 (joinB w1 wc) := by
  refine ⟨e.h, e.f, fun a h => join_some h, ⟨fun a x h => ?_, fun a x h => ?_⟩⟩
  · have h : wc.f a = some x := h
    by_cases c : w1.h a = none
    · rw [join_none c]
      exact e.ok.fb a x h
    · rw [join_some c]
      refine ok.fb a x ?_
      rw [← h]
      exact (e.f a c).symm
  · show wc.h a = some x
    by_cases c : w1.h a = none
    · rw [join_none c] at h
      exact e.ok.bh a x h
    · rw [join_some c] at h
      exact e.h a x (ok.bh a x h)
theorem join_val {w0 w1 wc : Wd} {r : Res} {v : V} (k0 : Same w0.h w1.h) (h : VOk K ⟨w1.f, w1.h, w1.h⟩ wc r v) (hk : r.1 = .fr ∨ r.1 = .cl) : VOk K w0 (joinB w1 wc) r v := by
  obtain ⟨kd, d⟩ := r
  rcases hk with hk | hk
  · have hk : kd = .fr := hk
    subst hk
    obtain ⟨p, vs, ds, h1, h2, h3, h4, h5, h6⟩ := h
    have h3 : w1.h p = none := h3
    exact ⟨p, vs, ds, h1, h2, Same.back k0 h3, h4, by rw [join_none h3]; exact h5, h6⟩
  · have hk : kd = .cl := hk
    subst hk
    exact h
theorem e_call {x : Str} {i : Nat} {S : Spc} {e : Expr} {es : List Expr} {as : Exs} (hS : Γ[i]? = some S) (F : Known X.prog X.w X.K X.mg X.base k x S) (hg : X.A.guards = some []) (hr : Room k X.A) (gl : Gl X x) (hx : (x == ("__debug__" : Str)) = false)
    (hd1 : hd e = true) (hds : es.all hd = true) (ha : PA X (e :: es) (rdA X.K (Es Γ as))) : PE X (.Call (.Name x p) (e :: es) [] pos) (rd X.K (E Γ (.call i as))) := by
  obtain ⟨f, fd, ps, hm, hk, hb, F⟩ := F.it
  refine pe_imp (call_g F hg hr gl hm hk hb hd1 hds ha hx) fun σ H Q h => ?_
  obtain ⟨B, w, ρ, rfl, s, q⟩ := h
  refine rdA_go s (Es.mono as (fun rs q w1 vs e1 o1 => ?_) q)
  obtain ⟨S', as', R, h1, h2, h3, q⟩ := q
  rw [hS] at h1
  cases h1
  refine ⟨w1.f, as', R, e1.ok.fh, args_rep e1.ok o1 h2, h3, fun r wc v hR ec vok kd => ?_⟩
  exact q r hR (joinB w1 wc) v (e1.trans (join_ext e1.ok ec)) (join_val e1.h vok kd)

/-! ### built-ins -/
def BR (K : PySem.W.Frag) (f : Bi) (r : List V → Hp → VK → Prop) : Prop := ∀ (w : Wd) (rs : List Res) (vs : List V) (P : Post) (Q : VK), w.Ok → AOks K w rs vs → bi f rs P → (∀ z w' v, P z → Ext w w' → VOk K w w' z v → Q v w'.h) → r vs w.h Q
theorem bi_go {f : Bi} {r : List V → Hp → VK → Prop} {as : Exs} (br : BR K f r) {σ : L2.St} {H : Hp} {Q : VK} (h : rd K (E Γ (.blt f as)) σ H Q) : tCB r (rdA K (Es Γ as)) σ H Q := by
  obtain ⟨B, w, ρ, rfl, s, q⟩ := h
  refine rdA_go s (Es.mono as (fun rs q w1 vs e1 o1 => ?_) q)
  exact br w1 rs vs _ Q e1.ok o1 q fun z w' v p e o => p w' v (e1.trans e) (o.early e1.h)
theorem e_biB {x : Str} {id : String} {f : Bi} {r : List V → Hp → VK → Prop} {e : Expr} {es : List Expr} {as : Exs} (hc : CallR X (.builtin id) r) (br : BR X.K f r) (gl : Gl X x) (hm : X.mg x = none) (hv : bootBuiltins x = some (.builtin id)) (hn : x ≠ "__name__") (hdb : (x == ("__debug__" : Str)) = false)
    (hd1 : hd e = true) (hds : es.all hd = true) (ha : PA X (e :: es) (rdA X.K (Es Γ as))) : PE X (.Call (.Name x p) (e :: es) [] pos) (rd X.K (E Γ (.blt f as))) :=
  pe_imp (pe_callB hc gl hm hv ha hn hdb (star_hd hd1) (star_any hds)) fun σ H Q h => bi_go br h
theorem e_biT {x : Str} {id : String} {f : Bi} {r : List V → Hp → VK → Prop} {e : Expr} {es : List Expr} {as : Exs} (hc : CallR X (.type id) r) (br : BR X.K f r) (gl : Gl X x) (hm : X.mg x = none) (hv : bootBuiltins x = some (.type id)) (hn : x ≠ "__name__") (hdb : (x == ("__debug__" : Str)) = false)
    (hd1 : hd e = true) (hds : es.all hd = true) (ha : PA X (e :: es) (rdA X.K (Es Γ as))) : PE X (.Call (.Name x p) (e :: es) [] pos) (rd X.K (E Γ (.blt f as))) :=
  pe_imp (pe_callTy hc gl hm hv ha hn hdb (star_hd hd1) (star_any hds)) fun σ H Q h => bi_go br h
theorem AOk.list {w : Wd} {r : Res} {v : V} {ds : List D} (o : w.Ok) (h : AOk K w r v) (e : r.2 = .list ds) : ∃ p vs, v = .ref p ∧ SqL K w.h p vs ∧ RpA w.f vs ds := VOk.list (w0 := w) (r := (aK r.1, r.2)) o h e
theorem AOk.tuple {w : Wd} {r : Res} {v : V} {ds : List D} (h : AOk K w r v) (e : r.2 = .tuple ds) : ∃ p vs, v = .ref p ∧ w.f p = some (.tup vs) ∧ RpA w.f vs ds := by
  obtain ⟨kd, d⟩ := r
  have e : d = .tuple ds := e
  subst e
  exact VOk.tuple h
theorem AOk.int {w : Wd} {r : Res} {v : V} {n : Int} (h : AOk K w r v) (e : r.2 = .int n) : v = .int n := by
  obtain ⟨kd, d⟩ := r
  have e : d = .int n := e
  subst e
  exact VOk.int h
theorem AOk.bool {w : Wd} {r : Res} {v : V} {n : Bool} (h : AOk K w r v) (e : r.2 = .bool n) : v = .bl n := by
  obtain ⟨kd, d⟩ := r
  have e : d = .bool n := e
  subst e
  exact VOk.bool h
theorem bi_len : BR K .len (fun xs H Q => ∃ p ys, xs = [.ref p] ∧ (SqL K H p ys ∨ SqT K H p ys) ∧ Q (.int ys.length) H) := by
  intro w rs vs P Q ok o h hq
  unfold bi at h
  split at h <;> first | contradiction | skip
  rename_i r _
  cases o with
  | cons o os =>
    cases os
    split at h <;> first | contradiction | skip
    · rename_i ds e
      obtain ⟨p, ys, rfl, h1, h2⟩ := o.list ok e
      refine ⟨p, ys, rfl, .inl h1, ?_⟩
      rw [h2.len]
      exact hq _ w _ h (Ext.refl ok) (Rp.int _)
    · rename_i ds e
      obtain ⟨p, ys, rfl, h1, h2⟩ := o.tuple e
      refine ⟨p, ys, rfl, .inr (SqT.of (ok.fh _ _ h1)), ?_⟩
      rw [h2.len]
      exact hq _ w _ h (Ext.refl ok) (Rp.int _)
theorem bi_int : BR K .int (fun xs H Q => (∃ i, xs = [.int i] ∧ Q (.int i) H) ∨ ∃ k, xs = [.bl k] ∧ Q (.int (if k then 1 else 0)) H) := by
  intro w rs vs P Q ok o h hq
  unfold bi at h
  split at h <;> first | contradiction | skip
  rename_i r _
  cases o with
  | cons o os =>
    cases os
    split at h <;> first | contradiction | skip
    · rename_i i e
      exact .inl ⟨i, by rw [o.int e], hq _ w _ h (Ext.refl ok) (Rp.int _)⟩
    · rename_i i e
      exact .inr ⟨i, by rw [o.bool e], hq _ w _ h (Ext.refl ok) (Rp.int _)⟩
theorem bi_abs : BR K .abs (fun xs H Q => ∃ i, xs = [.int i] ∧ Q (.int (if i < 0 then -i else i)) H) := by
  intro w rs vs P Q ok o h hq
  unfold bi at h
  split at h <;> first | contradiction | skip
  rename_i r _
  cases o with
  | cons o os =>
    cases os
    split at h <;> first | contradiction | skip
    rename_i i e
    exact ⟨i, by rw [o.int e], hq _ w _ h (Ext.refl ok) (Rp.int _)⟩
theorem bi_tuple : BR K .tuple (fun xs H Q => ∃ p ys, xs = [.ref p] ∧ ((SqL K H p ys ∧ ∀ l, H l = none → Q (.ref l) (upd H l (.tup ys))) ∨ (SqT K H p ys ∧ Q (.ref p) H))) := by
  intro w rs vs P Q ok o h hq
  unfold bi at h
  split at h <;> first | contradiction | skip
  rename_i r _
  cases o with
  | cons o os =>
    cases os
    split at h <;> first | contradiction | skip
    · rename_i ds e
      obtain ⟨p, ys, rfl, h1, h2⟩ := o.list ok e
      exact ⟨p, ys, rfl, .inl ⟨h1, new_tu ok h2 h hq⟩⟩
    · rename_i ds e
      obtain ⟨p, ys, rfl, h1, h2⟩ := o.tuple e
      exact ⟨p, ys, rfl, .inr ⟨SqT.of (ok.fh _ _ h1), hq _ w _ h (Ext.refl ok) (Rp.tup h1 h2)⟩⟩
theorem bi_list : BR K .list (fun xs H Q => ∃ p ys, xs = [.ref p] ∧ (SqL K H p ys ∨ SqT K H p ys) ∧ ∀ l, H l = none → Q (.ref l) (upd H l (.lst ys))) := by
  intro w rs vs P Q ok o h hq
  unfold bi at h
  split at h <;> first | contradiction | skip
  rename_i r _
  cases o with
  | cons o os =>
    cases os
    split at h <;> first | contradiction | skip
    · rename_i ds e
      obtain ⟨p, ys, rfl, h1, h2⟩ := o.list ok e
      exact ⟨p, ys, rfl, .inl h1, new_fr ok h2 h hq⟩
    · rename_i ds e
      obtain ⟨p, ys, rfl, h1, h2⟩ := o.tuple e
      exact ⟨p, ys, rfl, .inr (SqT.of (ok.fh _ _ h1)), new_fr ok h2 h hq⟩
theorem bi_sum : BR K .sum (rSum K) := by
  intro w rs vs P Q ok o h hq
  unfold bi at h
  split at h <;> first | contradiction | skip
  rename_i r _
  cases o with
  | cons o os =>
    cases os
    obtain ⟨ns, e, h⟩ := h
    obtain ⟨p, ys, rfl, h1, h2⟩ := o.list ok e
    have ey := h2.ints
    subst ey
    exact ⟨p, ns, rfl, h1, hq _ w _ h (Ext.refl ok) (Rp.int _)⟩
theorem bi_max1 : BR K .max1 (rMax K) := by
  intro w rs vs P Q ok o h hq
  unfold bi at h
  split at h <;> first | contradiction | skip
  rename_i r _
  cases o with
  | cons o os =>
    cases os
    obtain ⟨ns, e, n0, h⟩ := h
    obtain ⟨p, ys, rfl, h1, h2⟩ := o.list ok e
    have ey := h2.ints
    subst ey
    exact ⟨p, ns, rfl, h1, List.length_pos_iff.mpr n0, fun m hm hy => hq _ w _ (h m hm hy) (Ext.refl ok) (Rp.int _)⟩
theorem bi_min2 : BR K .min2 (fun xs H Q => ∃ i j, xs = [.int i, .int j] ∧ Q (.int (if j < i then j else i)) H) := by
  intro w rs vs P Q ok o h hq
  unfold bi at h
  split at h <;> first | contradiction | skip
  cases o with
  | cons o os =>
    cases os with
    | cons o2 os =>
      cases os
      obtain ⟨i, j, e1, e2, h⟩ := h
      exact ⟨i, j, by rw [o.int e1, o2.int e2], hq _ w _ h (Ext.refl ok) (Rp.int _)⟩
theorem bi_max2 : BR K .max2 (fun xs H Q => ∃ i j, xs = [.int i, .int j] ∧ Q (.int (if j > i then j else i)) H) := by
  intro w rs vs P Q ok o h hq
  unfold bi at h
  split at h <;> first | contradiction | skip
  cases o with
  | cons o os =>
    cases os with
    | cons o2 os =>
      cases os
      obtain ⟨i, j, e1, e2, h⟩ := h
      exact ⟨i, j, by rw [o.int e1, o2.int e2], hq _ w _ h (Ext.refl ok) (Rp.int _)⟩
theorem RpA.bools {H : Hp} : ∀ {vs : List V} {bs : List Bool}, RpA H vs (bs.map PyData.bool) → vs = bs.map V.bl
  | _, [], .nil => rfl
  | _, n :: ns, .cons (.bl _) q => by rw [List.map_cons, ← q.bools]
theorem bi_all : BR K .all (rAll K) := by
  intro w rs vs P Q ok o h hq
  unfold bi at h
  split at h <;> first | contradiction | skip
  rename_i r _
  cases o with
  | cons o os =>
    cases os
    obtain ⟨bs, e, h⟩ := h
    obtain ⟨p, ys, rfl, h1, h2⟩ := o.list ok e
    have ey := h2.bools
    subst ey
    exact ⟨p, bs, rfl, h1, hq _ w _ h (Ext.refl ok) (Rp.bl _)⟩
/-! repr of a display -/
def rRepr (K : PySem.W.Frag) : List V → Hp → VK → Prop := fun xs H Q => ∃ x d, xs = [x] ∧ Dp K H x d ∧ d.showable = true ∧ d.hasDict = false ∧ PyProof.Rows.isDisplay d = true ∧ d.depth ≤ 60 ∧ d.shown.length ≤ sizeLine ∧ Q (.str d.shown) H
theorem call_repr (hg : X.A.guards = some []) (hu : X.A.units + 64 < cLine) : CallR X (.builtin "repr") (rRepr X.K) := by
  intro pins s σ H xs us Q I r h
  obtain ⟨x, d, rfl, hd, h1, h2, h3, h4, h5, q⟩ := h
  obtain ⟨u, rfl, rx⟩ := vals1 r
  obtain ⟨as, rr⟩ := Dp.reads I d x u hd rx
  obtain ⟨a, rfl⟩ := PyProof.Rows.isRef_of_reads rr h3
  exact repr_of_reads' rr h1 (PyData.noDict_hsm h2) hg (by omega) (fun _ _ e => e) (fun h' u tk hk => ⟨.str d.shown, H, I.kept (t' := tk) hk, ⟨_, rfl⟩, q⟩) h5
theorem bi_repr : BR K .repr (rRepr K) := by
  intro w rs vs P Q ok o h hq
  unfold bi at h
  split at h <;> first | contradiction | skip
  rename_i r _
  cases o with
  | cons o os =>
    cases os
    obtain ⟨h1, h2, h3, h4, h5, h⟩ := h
    exact ⟨_, _, rfl, o.dp ok, h1, h2, h3, h4, h5, hq _ w _ h (Ext.refl ok) (Rp.str _)⟩
/-! tuple(range(n)) -/
theorem rg_map (n : Int) : RpA H ((List.range (n - 0).toNat).map fun i => V.int (0 + (i : Nat))) ((List.range n.toNat).map fun k : Nat => PyData.int (k : Int)) := by
  rw [Int.sub_zero]
  have : ∀ l : List Nat, RpA H (l.map fun i => V.int (0 + (i : Nat))) (l.map fun k : Nat => PyData.int (k : Int)) := fun l => by
    induction l with
    | nil => exact .nil
    | cons a l ih =>
      rw [List.map_cons, List.map_cons]
      refine .cons ?_ ih
      rw [Int.zero_add]
      exact .int _
  exact this _
theorem e_trng {a : Expr} {ea : Ex} {p1 p2 pos2 : Pos} (hc : X.calm = true) (g1 : Gl X "tuple") (m1 : X.mg "tuple" = none) (g2 : Gl X "range") (m2 : X.mg "range" = none) (hd1 : hd a = true) (ha : PE X a (rd X.K (E Γ ea))) :
    PE X (.Call (.Name "tuple" p1) [.Call (.Name "range" p2) [a] [] pos2] [] pos) (rd X.K (E Γ (.trng ea))) :=
  pe_imp (pe_tupRg hc g1 m1 (prg_1 g2 m2 ha (star_hd hd1))) fun σ H Q h => by
    obtain ⟨B, w, ρ, rfl, s, q⟩ := h
    show rd X.K (E Γ ea) σ w.h fun x H1 => ∃ n, x = .int n ∧ (RgOk 0 n ∧ ∀ q, H1 q = none → Q (.ref q) (upd H1 q (.tup (rgV 0 n))))
    refine rd_go s (E.mono ea (fun r q w1 v1 e1 o1 => ?_) q)
    obtain ⟨n, e, z1, z2, q⟩ := q
    obtain ⟨kd, d⟩ := r
    have e : d = .int n := e
    subst e
    refine ⟨n, o1.int, RgOk.of_le (by omega) (by omega) (by omega) (by omega), ?_⟩
    exact new_tu (P := fun r => ∀ w' v, Ext w w' → VOk X.K w w' r v → Q v w'.h) e1.ok (rg_map n) q fun z w' v p e o => p w' v (e1.trans e) (o.early e1.h)
/-! isinstance -/
def tyN : Ty → String
  | .bool => "bool"
  | .int => "int"
  | .str => "str"
  | .list => "list"
  | .tuple => "tuple"
def tyD : D → String
  | .bool _ => "bool"
  | .int _ => "int"
  | .str _ => "str"
  | .list _ => "list"
  | .tuple _ => "tuple"
  | .none => "NoneType"
  | .dict _ => "dict"
theorem kit_all (a : String) (ha : a ∈ ["bool", "int", "str", "list", "tuple", "NoneType"]) (t : Ty) : kitB a (tyN t) = some (decide (a = tyN t) || (decide (a = "bool") && decide (t = .int))) := by
  have h : ∀ a ∈ ["bool", "int", "str", "list", "tuple", "NoneType"], ∀ t ∈ [Ty.bool, Ty.int, Ty.str, Ty.list, Ty.tuple], kitB a (tyN t) = some (decide (a = tyN t) || (decide (a = "bool") && decide (t = .int))) := by decide +kernel
  exact h a ha t (by cases t <;> decide)
theorem isTy_eq (d : D) (t : Ty) (n : ∀ z, d ≠ .dict z) : isTy d t = (decide (tyD d = tyN t) || (decide (tyD d = "bool") && decide (t = .int))) := by
  cases d <;> first | (cases t <;> rfl) | exact absurd rfl (n _)
theorem tyD_mem (d : D) (n : ∀ z, d ≠ .dict z) : tyD d ∈ ["bool", "int", "str", "list", "tuple", "NoneType"] := by
  cases d <;> first | exact List.mem_of_elem_eq_true rfl | exact absurd rfl (n _)
theorem tyX_of {w0 w : Wd} {r : Res} {v : V} (ok : w.Ok) (h : VOk K w0 w r v) : (∀ z, r.2 ≠ .dict z) ∧ TyX K w.h v (.type (tyD r.2)) := by
  by_cases c : ∃ ds, r.2 = .list ds
  · obtain ⟨ds, e⟩ := c
    obtain ⟨p, vs, rfl, h1, _⟩ := h.list ok e
    rw [e]
    refine ⟨(fun z q => nomatch q), ?_⟩
    rcases h1 with (h1 | ⟨o, h1⟩) | ⟨o, its, n, h1, h2, _⟩
    · exact .base (.lst h1)
    · exact .base (.frz h1)
    · exact .kList h1 h2
  · have q := h.flat fun ds e => c ⟨ds, e⟩
    obtain ⟨kd, d⟩ := r
    have q : Rp w.f v d := q
    cases q with
    | non => exact ⟨(fun z q => nomatch q), .base .non⟩
    | bl b => exact ⟨(fun z q => nomatch q), .base (.bl b)⟩
    | int i => exact ⟨(fun z q => nomatch q), .base (.int i)⟩
    | str z => exact ⟨(fun z q => nomatch q), .base (.str z)⟩
    | lst e r => exact absurd ⟨_, rfl⟩ c
    | tup e r => exact ⟨(fun z q => nomatch q), .base (.tup (ok.fh _ _ e))⟩
theorem e_isi1 {a : Expr} {ea : Ex} {x : Str} {t : Ty} {p1 p2 : Pos} (hg : Gl X "isinstance") (hm : X.mg "isinstance" = none) (gx : Gl X x) (mx : X.mg x = none) (hb : bootBuiltins x = some (.type (tyN t))) (hx : x ≠ "__name__") (hx2 : (x == ("__debug__" : Str)) = false)
    (hd1 : hd a = true) (ha : PE X a (rd X.K (E Γ ea))) : PE X (.Call (.Name "isinstance" p1) [a, .Name x p2] [] pos) (rd X.K (E Γ (.isi ea [t]))) := by
  have px : PE X (.Name x p2) (tC (.ty (tyN t))) := pe_bltn gx mx hb rfl hx hx2
  refine pe_imp (pe_callB call_isi hg hm (by decide +kernel) (pa_cons ha (pa_cons px pa_nil rfl) (star_hd hd1)) (he := star_hd hd1)) fun σ H Q h => ?_
  obtain ⟨B, w, ρ, rfl, s, q⟩ := h
  refine rd_go s (E.mono ea (fun r q w1 v1 e1 o1 => ?_) q)
  obtain ⟨n, ty⟩ := tyX_of e1.ok o1
  refine ⟨v1, .ty (tyN t), _, _, _, rfl, .ty _, ty, kit_ty (kit_all _ (tyD_mem _ n) t), ?_⟩
  rw [← isTy_eq _ _ n]
  have q2 : ∀ w' v, Ext w w' → VOk X.K w w' (.cl, .bool ([t].any fun t => isTy r.2 t)) v → Q v w'.h := q
  have e3 : ([t].any fun t => isTy r.2 t) = isTy r.2 t := by simp
  rw [e3] at q2
  exact q2 w1 _ e1 (Rp.bl _)
theorem e_isi2 {a : Expr} {ea : Ex} {x y : Str} {t u : Ty} {p1 p2 p3 p4 : Pos} {j : Nat} (hg : Gl X "isinstance") (hm : X.mg "isinstance" = none) (gx : Gl X x) (mx : X.mg x = none) (hb : bootBuiltins x = some (.type (tyN t))) (hx : x ≠ "__name__") (hx2 : (x == ("__debug__" : Str)) = false)
    (gy : Gl X y) (my : X.mg y = none) (hby : bootBuiltins y = some (.type (tyN u))) (hy : y ≠ "__name__") (hy2 : (y == ("__debug__" : Str)) = false)
    (hd1 : hd a = true) (ha : PE X a (rd X.K (E Γ ea))) : PE X (.Call (.Name "isinstance" p1) [a, .Tuple [.Name x p2, .Name y p3] j p4] [] pos) (rd X.K (E Γ (.isi ea [t, u]))) := by
  have px : PE X (.Name x p2) (tC (.ty (tyN t))) := pe_bltn gx mx hb rfl hx hx2
  have py : PE X (.Name y p3) (tC (.ty (tyN u))) := pe_bltn gy my hby rfl hy hy2
  have pt := pe_tup (pos := p4) (x1 := j) (pa_cons px (pa_cons py pa_nil rfl) rfl)
  refine pe_imp (pe_callB call_isiT hg hm (by decide +kernel) (pa_cons ha (pa_cons pt pa_nil rfl) (star_hd hd1)) (he := star_hd hd1)) fun σ H Q h => ?_
  obtain ⟨B, w, ρ, rfl, s, q⟩ := h
  refine rd_go s (E.mono ea (fun r q w1 v1 e1 o1 => ?_) q)
  refine ⟨by show 2 ≤ sizeLine; decide, fun tp htp => ?_⟩
  have e2 : Ext w1 (w1.lay tp (.tup [.ty (tyN t), .ty (tyN u)])) := Ext.lay e1.ok htp
  have o2 := o1.mono e1.ok e2
  obtain ⟨n, ty⟩ := tyX_of e2.ok o2
  refine ⟨v1, tp, _, _, _, (isTy r.2 t || isTy r.2 u), rfl, upd_same, .cons (.ty _) (.cons (.ty _) .nil), ty, ?_, ?_⟩
  · have k1 := kit_ty (K := X.K) (kit_all _ (tyD_mem _ n) t)
    have k2 := kit_ty (K := X.K) (kit_all _ (tyD_mem _ n) u)
    rw [← isTy_eq _ _ n] at k1 k2
    cases c : isTy r.2 t <;> rw [c] at k1 <;> cases c2 : isTy r.2 u <;> rw [c2] at k2 <;> simp [PySem.W.kitAny, k1, k2]
  · have q2 : ∀ w' v, Ext w w' → VOk X.K w w' (.cl, .bool ([t, u].any fun t => isTy r.2 t)) v → Q v w'.h := q
    have e3 : ([t, u].any fun t => isTy r.2 t) = (isTy r.2 t || isTy r.2 u) := by simp
    rw [e3] at q2
    exact q2 _ _ (e1.trans e2) (Rp.bl _)
end
end Ir

set_option Elab.async false
set_option linter.all false
set_option maxRecDepth 100000
set_option maxHeartbeats 1000000
/-! Ir8: what loops walk; comprehensions. -/
namespace Ir
open PySem
open L2

section
variable {X : Cx} {T : Tb} {k : Nat} {Γ : List Spc} {sc : Scope} {pos p : Pos} {K : PySem.W.Frag}
/-- the walked thing has these items, in H -/
inductive Here (K : PySem.W.Frag) (H Hf : Hp) (ds : List D) : It → Prop where
  | rng (lo : Int) (n : Nat) (e : ds = (List.range n).map fun j : Nat => PyData.int (lo + (j : Int))) : Here K H Hf ds (Itr lo n)
  | lst (a : Addr) (vs : List V) (h : SqL K H a vs) (r : RpA Hf vs ds) : Here K H Hf ds (Itl K a)
  | tup (a : Addr) (vs : List V) (h : SqT K H a vs) (r : RpA Hf vs ds) : Here K H Hf ds (Itt K a)
theorem Same.seqT {H H' : Hp} {a : Addr} {vs : List V} (k : Same H H') (h : SqT K H a vs) : SqT K H' a vs := by
  rcases h with (h | ⟨o, h⟩) | h
  · exact .inl (.inl (k _ _ h))
  · exact .inl (.inr ⟨o, k _ _ h⟩)
  · exact .inr h
theorem Here.mono {H H' Hf Hf' : Hp} {ds : List D} {J : It} (k : Same H H') (kf : Same Hf Hf') (h : Here K H Hf ds J) : Here K H' Hf' ds J := by
  cases h with
  | rng lo n e => exact .rng lo n e
  | lst a vs h r => exact .lst a vs (Same.seqL k h) (r.mono kf)
  | tup a vs h r => exact .tup a vs (Same.seqT k h) (r.mono kf)
theorem here_stop {H Hf : Hp} {ds : List D} {J : It} {i : Nat} (h : Here K H Hf ds J) (hi : ds.length ≤ i) : J.stop i H := by
  cases h with
  | rng lo n e =>
    subst e
    rw [List.length_map, List.length_range] at hi
    exact hi
  | lst a vs h r => exact ⟨vs, h, by rw [r.len]; exact hi⟩
  | tup a vs h r => exact ⟨vs, h, by rw [r.len]; exact hi⟩
theorem here_go {H Hf : Hp} {ds : List D} {J : It} {i : Nat} {d : D} (h : Here K H Hf ds J) (hd : ds[i]? = some d) : J.go i H ∧ ∀ x H', J.yld i H x H' → H' = H ∧ Rp Hf x d := by
  cases h with
  | rng lo n e =>
    subst e
    rw [List.getElem?_map] at hd
    cases c : (List.range n)[i]? with
    | none => rw [c] at hd; cases hd
    | some j =>
      rw [c] at hd
      obtain ⟨h1, h2⟩ := List.getElem?_eq_some_iff.mp c
      rw [List.length_range] at h1
      rw [List.getElem_range] at h2
      subst h2
      have ed : PyData.int (lo + (i : Int)) = d := Option.some.inj hd
      subst ed
      exact ⟨h1, fun x H' y => ⟨y.1, by rw [y.2]; exact .int _⟩⟩
  | lst a vs h r =>
    obtain ⟨v, hv, rv⟩ := r.at hd
    exact ⟨⟨vs, v, h, hv⟩, fun x H' y => ⟨y.1, by
      have e := (y.2 vs h).symm.trans hv
      rw [Option.some.inj e]
      exact rv⟩⟩
  | tup a vs h r =>
    obtain ⟨v, hv, rv⟩ := r.at hd
    exact ⟨⟨vs, v, h, hv⟩, fun x H' y => ⟨y.1, by
      have e := (y.2 vs h).symm.trans hv
      rw [Option.some.inj e]
      exact rv⟩⟩
def SrcOk (K : PySem.W.Frag) (w : Wd) (kd : Kd) (ds : List D) (J : It) : Prop := Here K w.h w.f ds J ∧ (kd ≠ .ow → Here K w.b w.f ds J)
def rdI (K : PySem.W.Frag) (T : Env' → (Kd → List D → Prop) → Prop) : TI := fun σ H R => ∃ B w ρ, w.h = H ∧ SR K B w ρ σ ∧ T ρ fun kd ds => ∀ w' J, Ext w w' → SrcOk K w' kd ds J → R J w'.h
theorem rdI_go {B : Bs} {w : Wd} {ρ : Env'} {σ : L2.St} {T : Env' → (Kd → List D → Prop) → Prop} {R : It → Hp → Prop} (s : SR K B w ρ σ) (q : T ρ fun kd ds => ∀ w' J, Ext w w' → SrcOk K w' kd ds J → R J w'.h) : rdI K T σ w.h R := ⟨B, w, ρ, rfl, s, q⟩
theorem fresh_it {pins : List (Addr × Obj)} {σ : L2.St} {H : Hp} {s : Shared} (J : Inv X pins σ H s) : ∀ b ∈ [s.heap.objs.size], FpOk X pins H b := fun b hb => by
  rw [List.mem_singleton.mp hb]
  exact J.fpOk (Nat.le_refl _) (J.hok.fresh (Nat.le_refl _))
theorem iter_lst {tg : Expr} {pins : List (Addr × Obj)} {σ : L2.St} {H : Hp} {s : Shared} {a : Addr} {vs : List V} {R : It → Hp → Prop} (J : Inv X pins σ H s) (hq : SqL X.K H a vs) (q : R (Itl X.K a) H) :
    wpAny (model X.prog X.w) X.A (pyIter (.ref a)) (PIE X pins σ tg R) X.xe s := by
  obtain ⟨its, _, pl, _⟩ := J.list hq
  refine wpAny_pyIter_list pl.isList ?_
  exact ⟨s.heap.objs.size, [s.heap.objs.size], _, _, H, rfl, J.kept (t' := s.toks) (fun _ _ z => Heap.get?_push_of_some _ z), turn_list a _, ⟨_, Heap.get?_push_size _ rfl, rfl, rfl⟩, fresh_it J, q⟩
theorem iter_tup {tg : Expr} {pins : List (Addr × Obj)} {σ : L2.St} {H : Hp} {s : Shared} {a : Addr} {vs : List V} {R : It → Hp → Prop} (J : Inv X pins σ H s) (hq : SqT X.K H a vs) (q : R (Itt X.K a) H) :
    wpAny (model X.prog X.w) X.A (pyIter (.ref a)) (PIE X pins σ tg R) X.xe s := by
  obtain ⟨its, _, pl, _⟩ := J.tuple hq
  refine wpAny_pyIter_tuple (show s.heap.IsTuple a its.toArray from pl) ?_
  exact ⟨s.heap.objs.size, [s.heap.objs.size], _, _, H, rfl, J.kept (t' := s.toks) (fun _ _ z => Heap.get?_push_of_some _ z), turn_tuple a _, ⟨_, Heap.get?_push_size _ rfl, rfl, rfl⟩, fresh_it J, q⟩
theorem i_of {tg e : Expr} {ea : Ex} (ha : PE X e (rd X.K (E Γ ea))) : PI X tg e (rdI X.K (srcW Γ (.of ea))) := by
  refine ⟨fun pins st σ H R I h => ?_⟩
  have h1 : rd X.K (E Γ ea) σ H fun x H1 => (∃ a vs, x = .ref a ∧ SqL X.K H1 a vs ∧ R (Itl X.K a) H1) ∨ ∃ a vs, x = .ref a ∧ SqT X.K H1 a vs ∧ R (Itt X.K a) H1 := by
    obtain ⟨B, w, ρ, rfl, s, q⟩ := h
    refine rd_go s (E.mono ea (fun r q w1 v1 e1 o1 => ?_) q)
    unfold ofQ at q
    split at q <;> first | contradiction | skip
    · rename_i ds ed
      by_cases c : r.1 = .fr
      · -- a new list: frozen at once
        obtain ⟨kd, d⟩ := r
        have c : kd = .fr := c
        have ed : d = .list ds := ed
        subst c ed
        obtain ⟨w2, h2, e2, r2⟩ := o1.clean e1 rfl
        rw [← h2]
        cases r2 with
        | lst e r =>
          exact .inl ⟨_, _, rfl, SqL.of (e2.ok.fh _ _ e), q w2 _ e2 ⟨.lst _ _ (SqL.of (e2.ok.fh _ _ e)) r, fun _ => .lst _ _ (SqL.of (e2.ok.fb _ _ e)) r⟩⟩
      · have both : (∃ p vs, v1 = .ref p ∧ SqL X.K w1.h p vs ∧ RpA w1.f vs ds) ∧ (r.1 ≠ .ow → ∃ p vs, v1 = .ref p ∧ SqL X.K w1.b p vs ∧ RpA w1.f vs ds) := by
          refine ⟨o1.list e1.ok ed, fun no => ?_⟩
          obtain ⟨kd, d⟩ := r
          have ed : d = .list ds := ed
          subst ed
          cases kd with
          | fr => exact absurd rfl c
          | ow => exact absurd rfl no
          | cl =>
            have o1 : Rp w1.f v1 (.list ds) := o1
            cases o1 with
            | lst e r => exact ⟨_, _, rfl, SqL.of (e1.ok.fb _ _ e), r⟩
          | sh =>
            obtain ⟨p', vs', ds', z1, z2, z3, z4⟩ := o1
            cases z1
            exact ⟨p', vs', z2, SqL.of z3, z4⟩
          | sc =>
            obtain ⟨p', ns, z1, z2, z3⟩ := o1
            cases z1
            exact ⟨p', ns.map V.int, z2, z3, RpA.of_ints ns⟩
        by_cases no : r.1 = .ow
        · obtain ⟨p, vs, e2, h1, h2⟩ := both.1
          subst e2
          exact .inl ⟨p, vs, rfl, h1, q w1 _ e1 ⟨.lst p vs h1 h2, fun z => absurd no z⟩⟩
        · obtain ⟨p, vs, e2, h1, h2⟩ := both.2 no
          subst e2
          have h3 := Same.seqL e1.ok.bh h1
          exact .inl ⟨p, vs, rfl, h3, q w1 _ e1 ⟨.lst p vs h3 h2, fun _ => .lst p vs h1 h2⟩⟩
    · rename_i ds ed
      obtain ⟨kd, d⟩ := r
      have ed : d = .tuple ds := ed
      subst ed
      obtain ⟨p, vs, rfl, h1, h2⟩ := o1.tuple
      exact .inr ⟨p, vs, rfl, SqT.of (e1.ok.fh _ _ h1), q w1 _ e1 ⟨.tup p vs (SqT.of (e1.ok.fh _ _ h1)) h2, fun _ => .tup p vs (SqT.of (e1.ok.fb _ _ h1)) h2⟩⟩
  refine thn (ha.run pins st σ H _ I h1) fun v s1 ⟨x, H1, I1, r1, q1⟩ => ?_
  rcases q1 with ⟨a, vs, e, hq, q⟩ | ⟨a, vs, e, hq, q⟩
  · subst e
    cases r1
    exact iter_lst I1 hq q
  · subst e
    cases r1
    exact iter_tup I1 hq q
theorem i_rng1 {tg a : Expr} {ea : Ex} {p1 : Pos} (g : Gl X "range") (m : X.mg "range" = none) (hd1 : hd a = true) (ha : PA X [a] (rdA X.K (Es Γ (.cons ea .nil)))) : PI X tg (.Call (.Name "range" p1) [a] [] pos) (rdI X.K (srcW Γ (.rng (.cons ea .nil)))) :=
  pi_imp (pi_range1 g m ha (by rw [star_hd hd1] <;> rfl)) fun σ H R h => by
    obtain ⟨B, w, ρ, rfl, s, q⟩ := h
    have q : E Γ ea ρ fun r => rngQ (fun kd ds => ∀ w' J, Ext w w' → SrcOk X.K w' kd ds J → R J w'.h) [r] := q
    refine rdA_go s (show E Γ ea ρ _ from E.mono ea (fun r q w1 vs e1 o1 => ?_) q)
    cases o1 with
    | cons o os =>
      cases os
      obtain ⟨kd, d⟩ := r
      unfold rngQ at q
      split at q <;> first | contradiction | skip
      · rename_i kd' n z
        cases z
        refine ⟨n, by rw [o.int rfl], q.1, q.2.1, q.2.2 w1 _ e1 ?_⟩
        have e2 : ((List.range n.toNat).map fun k : Nat => PyData.int (k : Int)) = (List.range n.toNat).map fun j : Nat => PyData.int (0 + (j : Int)) := by
          refine List.map_congr_left fun a _ => ?_
          rw [Int.zero_add]
        rw [e2]
        exact ⟨.rng 0 n.toNat rfl, fun _ => .rng 0 n.toNat rfl⟩
      · rename_i z
        cases z
theorem i_rng2 {tg a b : Expr} {ea eb : Ex} {p1 : Pos} (g : Gl X "range") (m : X.mg "range" = none) (hd1 : hd a = true) (hd2 : hd b = true) (ha : PA X [a, b] (rdA X.K (Es Γ (.cons ea (.cons eb .nil))))) :
    PI X tg (.Call (.Name "range" p1) [a, b] [] pos) (rdI X.K (srcW Γ (.rng (.cons ea (.cons eb .nil))))) :=
  pi_imp (pi_range2 g m ha (by rw [star_hd hd1, star_hd hd2] <;> rfl) (by rw [star_hd hd2] <;> rfl)) fun σ H R h => by
    obtain ⟨B, w, ρ, rfl, s, q⟩ := h
    have q : E Γ ea ρ fun r => E Γ eb ρ fun r2 => rngQ (fun kd ds => ∀ w' J, Ext w w' → SrcOk X.K w' kd ds J → R J w'.h) [r, r2] := q
    refine rdA_go s (show E Γ ea ρ (fun r => E Γ eb ρ fun r2 => _) from E.mono ea (fun r q => E.mono eb (fun r2 qq w1 vs e1 o1 => ?_) q) q)
    cases o1 with
    | cons o os =>
      cases os with
      | cons o2 os =>
        cases os
        obtain ⟨kd, d⟩ := r
        obtain ⟨kd2, d2⟩ := r2
        unfold rngQ at qq
        split at qq <;> first | contradiction | skip
        · rename_i z
          cases z
        · rename_i k1 n1 k2 n2 z
          cases z
          refine ⟨n1, n2, by rw [o.int rfl, o2.int rfl], ⟨qq.1, qq.2.1, qq.2.2.1, qq.2.2.2.1⟩, qq.2.2.2.2 w1 _ e1 ?_⟩
          exact ⟨.rng n1 _ rfl, fun _ => .rng n1 _ rfl⟩

/-! ### comprehensions -/
theorem upd_ok {w : Wd} {D : Addr} {o : HO} (ok : w.Ok) (hb : w.b D = none) : Wd.Ok ⟨w.f, w.b, upd w.h D o⟩ := ⟨ok.fb, fun a x h => by
  have h : w.b a = some x := h
  show upd w.h D o a = some x
  rw [upd_ne (ne_of_none h hb)]
  exact ok.bh a x h⟩
theorem upd_ext {w1 w : Wd} {D : Addr} {o : HO} (e : Ext w1 w) (hn : w1.h D = none) (hb : w.b D = none) : Ext w1 ⟨w.f, w.b, upd w.h D o⟩ := ⟨fun a x h => by
  show upd w.h D o a = some x
  rw [upd_ne (ne_of_none h hn)]
  exact e.h a x h, e.f, e.b, upd_ok e.ok hb⟩
theorem drop_cons {ds : List D} {i : Nat} (h : i < ds.length) : ∃ d, ds[i]? = some d ∧ ds.drop i = d :: ds.drop (i + 1) :=
  ⟨ds[i], List.getElem?_eq_getElem h, List.drop_eq_getElem_cons h⟩
theorem lc_imp {j : Nat} {s : Sr} {c : Exs} {e : Ex} {tt : TT} (ht : ∀ σ H Q, rdT X.K (fun ρ P => cnd Γ c ρ P) σ H Q → tt σ H Q) {σ : L2.St} {H : Hp} {Q : VK} (h : rd X.K (E Γ (.lc j s c e)) σ H Q) :
    tLc (rdI X.K (srcW Γ s)) (gName j) tt (rd X.K (E Γ e)) [j] σ H Q := by
  obtain ⟨B, w, ρ, rfl, sr, q⟩ := h
  have q : srcW Γ s ρ fun _ ds => lcW (fun d P => cnd Γ c (ρ.set j (.fz d)) P) (fun d P => E Γ e (ρ.set j (.fz d)) P) (fun r => ∀ w' v, Ext w w' → VOk X.K w w' r v → Q v w'.h) ds [] := q
  refine rdI_go sr (srcW.mono s (fun kd ds q w1 J e1 src => ?_) q)
  intro Dl nD
  have wip : wipe σ [j] = σ.set j none := rfl
  -- the list that is made: at Dl, of acc so far
  let At : Wd → List D → Prop := fun w2 acc => Ext w1 w2 ∧ w2.b Dl = none ∧ ∃ vs, w2.h Dl = some (.lst vs) ∧ RpA w2.f vs acc
  refine ⟨fun i m H => m = ds.length - i ∧ i ≤ ds.length ∧ ∃ w2 acc, w2.h = H ∧ At w2 acc ∧ lcW (fun d P => cnd Γ c (ρ.set j (.fz d)) P) (fun d P => E Γ e (ρ.set j (.fz d)) P) (fun r => ∀ w' v, Ext w w' → VOk X.K w w' r v → Q v w'.h) (ds.drop i) acc,
    ⟨ds.length, by omega, Nat.zero_le _, w1.add Dl (.lst []), [], rfl, ⟨Ext.add e1.ok nD, Same.back e1.ok.bh nD, [], upd_same, .nil⟩, q⟩, ?_⟩
  rintro i m H ⟨rfl, hi, w2, acc, rfl, ⟨e2, nb, vs, hD, hr⟩, q⟩
  have src2 : Here X.K w2.h w2.f ds J := src.1.mono e2.h (e2.sf e1.ok)
  by_cases lt : i < ds.length
  · obtain ⟨d, hd1, hd2⟩ := drop_cons lt
    rw [hd2] at q
    obtain ⟨hz, q⟩ := q
    obtain ⟨go, yl⟩ := here_go src2 hd1
    refine .inr ⟨go, fun H' => ∃ w3 acc', w3.h = H' ∧ At w3 acc' ∧ lcW (fun d P => cnd Γ c (ρ.set j (.fz d)) P) (fun d P => E Γ e (ρ.set j (.fz d)) P) (fun r => ∀ w' v, Ext w w' → VOk X.K w w' r v → Q v w'.h) (ds.drop (i + 1)) acc', ?_, ?_⟩
    · rintro H' ⟨w3, acc', h1, h2, h3⟩
      exact ⟨ds.length - (i + 1), by omega, rfl, lt, w3, acc', h1, h2, h3⟩
    · intro x H' y
      obtain ⟨eH, rx⟩ := yl x H' y
      subst eH
      show wipe ((wipe σ [j]).set j (some x)) [j] = wipe σ [j] ∧ _
      rw [wip]
      have e5 : (σ.set j none).set j (some x) = σ.set j (some x) := List.set_set ..
      rw [e5]
      refine ⟨List.set_set .., ht _ _ _ ?_⟩
      have s2 : SR X.K B w2 (ρ.set j (.fz d)) (σ.set j (some x)) := (sr.grow (e1.trans e2)).putF rx
      refine rdT_go s2 (cnd.mono c (fun k q w3 e3 => ?_) q)
      have keepD : ∀ w4, Ext w2 w4 → At w4 acc := fun w4 e4 => ⟨e2.trans e4, (e4.b Dl (some_ne hD)).trans nb, vs, e4.h _ _ hD, hr.mono (e4.sf e2.ok)⟩
      cases k with
      | false =>
        rw [if_neg (by decide)] at q ⊢
        exact ⟨w3, acc, rfl, keepD w3 e3, q⟩
      | true =>
        rw [if_pos rfl] at q ⊢
        refine rd_go (s2.grow e3) (E.mono e (fun r q w4 y e4 o4 => ?_) q)
        obtain ⟨z, hz2, q⟩ := q
        obtain ⟨w5, h5, e5, r5⟩ := o4.clean e4 hz2
        obtain ⟨a1, a2, vs', a3, a4⟩ := keepD w5 (e3.trans e5)
        have evs : vs' = vs := by
          have z1 := (e3.trans e5).h _ _ hD
          rw [a3] at z1
          cases z1
          rfl
        subst evs
        refine ⟨vs', by rw [← h5]; exact a3, by rw [hr.len]; exact hz, ⟨w5.f, w5.b, upd w5.h Dl (.lst (vs' ++ [y]))⟩, acc ++ [z], by rw [← h5], ⟨upd_ext a1 nD a2, a2, vs' ++ [y], upd_same, a4.app (RpA.one r5)⟩, q⟩
  · have ei : i = ds.length := by omega
    subst ei
    rw [List.drop_length] at q
    refine .inl ⟨here_stop src2 (Nat.le_refl _), ?_⟩
    have q : ∀ w' v, Ext w w' → VOk X.K w w' (.fr, .list acc) v → Q v w'.h := q
    exact q w2 _ (e1.trans e2) ⟨Dl, vs, acc, rfl, rfl, Same.back e1.h nD, hD, nb, hr⟩
end
end Ir

set_option Elab.async false
set_option linter.all false
set_option maxRecDepth 100000
set_option maxHeartbeats 1000000
/-! Ir9: statements. -/
namespace Ir
open PySem
open L2

structure En.Le (N N' : En) : Prop where
  nx : ∀ ρ, N.nx ρ → N'.nx ρ
  rt : ∀ r, N.rt r → N'.rt r
  bk : ∀ ρ, N.bk ρ → N'.bk ρ
  ct : ∀ ρ, N.ct ρ → N'.ct ρ
theorem stQ.mono {i : Nat} {ρ : Env'} {P P' : Env' → Prop} (h : ∀ ρ, P ρ → P' ρ) (r : Res) (q : stQ i ρ P r) : stQ i ρ P' r := by
  unfold stQ at *
  split at q <;> first | exact h _ q | exact q.elim
theorem dcW.mono {K K' V V' : D → Post → Prop} {t : Bool} {Q Q' : List (D × D) → Prop} (hK : ∀ d P P', (∀ r, P r → P' r) → K d P → K' d P') (hV : ∀ d P P', (∀ r, P r → P' r) → V d P → V' d P') (h : ∀ kvs, Q kvs → Q' kvs) :
    ∀ (ds : List D) (acc : List (D × D)), dcW K V t Q ds acc → dcW K' V' t Q' ds acc
  | [], acc, q => h _ q
  | d :: ds, acc, q => ⟨q.1, hK d _ _ (fun k z => ⟨z.1, z.2.1, hV d _ _ (fun v ⟨x, e, y⟩ => ⟨x, e, dcW.mono hK hV h ds _ y⟩) z.2.2⟩) q.2⟩
mutual
theorem W1.mono {Γ : List Spc} : ∀ (s : S) {ρ : Env'} {N N' : En}, En.Le N N' → W1 Γ s ρ N → W1 Γ s ρ N'
  | .asg i e, ρ, N, N', h, q => E.mono e (stQ.mono h.nx) q
  | .asgU l e, ρ, N, N', h, q => E.mono e (fun r q => by
    obtain ⟨kd, d⟩ := r
    cases d <;> first | exact ⟨q.1, h.nx _ q.2⟩ | exact q.elim) q
  | .aug i e, ρ, N, N', h, q => by
    simp only [W1] at q ⊢
    split at q <;> first | contradiction | skip
    exact E.mono e (fun r q => by
      obtain ⟨m, e1, q⟩ := q
      exact ⟨m, e1, h.nx _ q⟩) q
  | .app i e, ρ, N, N', h, q => by
    simp only [W1] at q ⊢
    split at q <;> first | contradiction | skip
    exact ⟨q.1, E.mono e (fun r q => by
      obtain ⟨m, e1, q⟩ := q
      exact ⟨m, e1, h.nx _ q⟩) q.2⟩
  | .appPop i j e, ρ, N, N', h, q => by
    simp only [W1] at q ⊢
    split at q <;> first | contradiction | skip
    exact ⟨q.1, q.2.1, E.mono e (fun r q => by
      obtain ⟨n, k, d, e1, e2, e3, e4, e5, q⟩ := q
      exact ⟨n, k, d, e1, e2, e3, e4, e5, h.nx _ q⟩) q.2.2⟩
  | .pop i, ρ, N, N', h, q => by
    simp only [W1] at q ⊢
    split at q <;> first | contradiction | skip
    exact ⟨q.1, h.nx _ q.2⟩
  | .setx i a e, ρ, N, N', h, q => by
    simp only [W1] at q ⊢
    split at q <;> first | contradiction | skip
    · exact E.mono e (fun r q => by
        obtain ⟨d, e1, q⟩ := q
        refine ⟨d, e1, E.mono a (fun k q => ?_) q⟩
        obtain ⟨n, j, e2, e3, q⟩ := q
        exact ⟨n, j, e2, e3, h.nx _ q⟩) q
    · exact E.mono e (fun r q => by
        obtain ⟨d, e1, q⟩ := q
        exact ⟨d, e1, E.mono a (fun k q => ⟨q.1, q.2.1, q.2.2.1, h.nx _ q.2.2.2⟩) q⟩) q
  | .dnew t i as, ρ, N, N', h, q => Es.mono as (fun rs q => by
    obtain ⟨kvs, e1, e2, e3, q⟩ := q
    exact ⟨kvs, e1, e2, e3, h.nx _ q⟩) q
  | .dcomp t i j s k v, ρ, N, N', h, q => by
    simp only [W1] at q ⊢
    exact srcW.mono s (fun kd ds q => by
      exact (dcW.mono (fun d P P2 z q => E.mono k (ρ := ρ.set j (.fz d)) (Q := P) (Q' := P2) z q) (fun d P P2 z q => E.mono v (ρ := ρ.set j (.fz d)) (Q := P) (Q' := P2) z q) (fun kvs => h.nx _) ds [] q)) q
  | .iff c a b, ρ, N, N', h, q => by
    simp only [W1] at q ⊢
    exact E.mono c (boolQ.mono fun k q => by
      cases k with
      | true =>
        rw [if_pos rfl] at q ⊢
        exact W.mono a h q
      | false =>
        rw [if_neg (by decide)] at q ⊢
        exact W.mono b h q) q
  | .each j s body, ρ, N, N', h, q => by
    simp only [W1] at q ⊢
    exact srcW.mono s (fun kd ds q => by
      obtain ⟨h1, I, h2, h3, h4⟩ := q
      exact ⟨h1, I, h2, fun i d ρ' e z => W.mono body (N := { nx := I (i + 1), rt := N.rt, bk := N.nx, ct := I (i + 1) }) (N' := { nx := I (i + 1), rt := N'.rt, bk := N'.nx, ct := I (i + 1) }) ⟨fun _ z => z, h.rt, h.nx, fun _ z => z⟩ (h3 i d ρ' e z), fun ρ' z => h.nx _ (h4 ρ' z)⟩) q
  | .whl c body, ρ, N, N', h, q => by
    simp only [W1] at q ⊢
    obtain ⟨I, h1, h2⟩ := q
    refine ⟨I, h1, fun m ρ' z => E.mono c (boolQ.mono fun k q => ?_) (h2 m ρ' z)⟩
    cases k with
    | true =>
      rw [if_pos rfl] at q ⊢
      exact W.mono body (N := { nx := fun ρ2 => ∃ m', m' < m ∧ I m' ρ2, rt := N.rt, bk := N.nx, ct := fun ρ2 => ∃ m', m' < m ∧ I m' ρ2 }) (N' := { nx := fun ρ2 => ∃ m', m' < m ∧ I m' ρ2, rt := N'.rt, bk := N'.nx, ct := fun ρ2 => ∃ m', m' < m ∧ I m' ρ2 }) ⟨fun _ z => z, h.rt, h.nx, fun _ z => z⟩ q
    | false =>
      rw [if_neg (by decide)] at q ⊢
      exact h.nx _ q
  | .ret e, ρ, N, N', h, q => by
    simp only [W1] at q ⊢
    split at q
    · exact h.rt _ q
    · exact E.mono e (fun r q => ⟨q.1, h.rt _ q.2⟩) q
  | .retN, ρ, N, N', h, q => h.rt _ q
  | .brk, ρ, N, N', h, q => h.bk _ q
  | .cnt, ρ, N, N', h, q => h.ct _ q
  | .pas, ρ, N, N', h, q => h.nx _ q
  | .drop e, ρ, N, N', h, q => E.mono e (fun r q => h.nx _ q) q
  | .frz i, ρ, N, N', h, q => by
    simp only [W1] at q ⊢
    split at q <;> exact h.nx _ q
theorem W.mono {Γ : List Spc} : ∀ (ss : Ss) {ρ : Env'} {N N' : En}, En.Le N N' → W Γ ss ρ N → W Γ ss ρ N'
  | .nil, ρ, N, N', h, q => h.nx _ q
  | .cons s ss, ρ, N, N', h, q => W1.mono s (N := { N with nx := fun ρ' => W Γ ss ρ' N }) (N' := { N' with nx := fun ρ' => W Γ ss ρ' N' }) ⟨fun ρ' q => W.mono ss h q, h.rt, h.bk, h.ct⟩ q
end

section
variable {X : Cx} {T : Tb} {k : Nat} {Γ : List Spc} {sc : Scope} {pos p : Pos} {K : PySem.W.Frag}
def ends (K : PySem.W.Frag) (B : Bs) (D : Ends) : En where
  nx := fun ρ => ∀ w σ, SR K B w ρ σ → D.nx σ w.h
  rt := fun r => ∀ w v, Ext B.w w → VOk K B.w w r v → (r.1 = .fr ∨ r.1 = .cl) → D.rt v w.h
  bk := fun ρ => ∀ w σ, SR K B w ρ σ → D.bk σ w.h
  ct := fun ρ => ∀ w σ, SR K B w ρ σ → D.ct σ w.h
def rdS (K : PySem.W.Frag) (Wf : Env' → En → Prop) : TS := fun D σ H => ∃ B w ρ, w.h = H ∧ SR K B w ρ σ ∧ Wf ρ (ends K B D)
theorem rdS_go {B : Bs} {w : Wd} {ρ : Env'} {σ : L2.St} {Wf : Env' → En → Prop} {D : Ends} (s : SR K B w ρ σ) (q : Wf ρ (ends K B D)) : rdS K Wf D σ w.h := ⟨B, w, ρ, rfl, s, q⟩
theorem ss_nil : PSs X [] (rdS X.K (W Γ .nil)) := pss_imp pss_nil fun D σ H h => by
  obtain ⟨B, w, ρ, rfl, s, q⟩ := h
  exact q w σ s
theorem ss_cons {st : Stmt} {rest : List Stmt} {s : S} {ss : Ss} (h1 : PS X st (rdS X.K (W1 Γ s))) (h2 : PSs X rest (rdS X.K (W Γ ss))) : PSs X (st :: rest) (rdS X.K (W Γ (.cons s ss))) :=
  pss_imp (pss_cons h1 h2) fun D σ H h => by
    obtain ⟨B, w, ρ, rfl, sr, q⟩ := h
    show rdS X.K (W1 Γ s) { D with nx := rdS X.K (W Γ ss) D } σ w.h
    exact rdS_go sr (W1.mono s (N := { ends X.K B D with nx := fun ρ' => W Γ ss ρ' (ends X.K B D) }) (N' := ends X.K B { D with nx := rdS X.K (W Γ ss) D }) ⟨fun ρ' q w' σ' s' => rdS_go s' q, fun r q => q, fun r q => q, fun r q => q⟩ q)
/-- a statement of no program: an owned list frozen -/
theorem ss_frz {i : Nat} {rest : List Stmt} {ss : Ss} (h2 : PSs X rest (rdS X.K (W Γ ss))) : PSs X rest (rdS X.K (W Γ (.cons (.frz i) ss))) :=
  pss_imp h2 fun D σ H h => by
    obtain ⟨B, w, ρ, rfl, sr, q⟩ := h
    have q : W1 Γ (.frz i) ρ { ends X.K B D with nx := fun ρ' => W Γ ss ρ' (ends X.K B D) } := q
    simp only [W1] at q
    split at q
    · rename_i ds e
      obtain ⟨w', h', s'⟩ := sr.freeze e
      rw [← h']
      exact rdS_go s' q
    · exact rdS_go sr q
theorem owned_there {w : Wd} {ρ : Env'} {σ : L2.St} {B : Bs} {j : Nat} {y : Sl} {q : Addr} (s : SR K B w ρ σ) (h : ρ[j]? = some y) (ho : owned y = true) (hv : σ[j]? = some (some (.ref q))) : w.h q ≠ none := by
  obtain ⟨v, h1, h2⟩ := s.sl j y h
  rw [hv] at h1
  cases h1
  cases y with
  | ol ds =>
    obtain ⟨p, vs, e1, e2, _⟩ := h2
    cases e1
    exact some_ne e2
  | od t kvs =>
    obtain ⟨p, e1, e2, e3⟩ := h2
    cases e1
    exact e3.there
  | un => cases ho
  | fz d => cases ho
  | sh ds => cases ho
  | sc ns => cases ho
/-- a result stored -/
theorem st_put {w w' : Wd} {ρ : Env'} {σ : L2.St} {B : Bs} {i : Nat} {r : Res} {v : V} {P : Env' → Prop} (s : SR K B w ρ σ) (e : Ext w w') (o : VOk K w w' r v) (q : stQ i ρ P r) : ∃ ρ', P ρ' ∧ SR K B w' ρ' (σ.set i (some v)) := by
  obtain ⟨kd, d⟩ := r
  unfold stQ at q
  split at q <;> first | contradiction | skip
  · rename_i ds e1 e2
    have e1 : kd = .fr := e1
    have e2 : d = .list ds := e2
    subst e1 e2
    obtain ⟨p, vs, ds', h1, h2, h3, h4, h5, h6⟩ := o
    cases h1
    subst h2
    refine ⟨_, q, (s.grow e).put ⟨p, vs, rfl, h4, h5, h6⟩ fun _ j y q' ne hj ho hv z => ?_⟩
    cases z
    exact owned_there s hj ho hv h3
  · rename_i e1
    have e1 : kd = .cl := e1
    subst e1
    exact ⟨_, q, (s.grow e).putF o⟩
/-- a store, however the value came -/
theorem asg_rd {i : Nat} {e : Ex} {D : Ends} {σ : L2.St} {H : Hp} (h : rdS K (W1 Γ (.asg i e)) D σ H) : rd K (E Γ e) σ H fun v H1 => D.nx (σ.set i (some v)) H1 := by
  obtain ⟨B, w, ρ, rfl, s, q⟩ := h
  refine rd_go s (E.mono e (fun r q w' v e o => ?_) q)
  obtain ⟨ρ', q, s'⟩ := st_put s e o q
  exact q w' _ s'
theorem s_asg {i : Nat} {x : Str} {e : Expr} {ea : Ex} {p1 : Pos} (hN : X.N.Nodup) (hi : X.N[i]? = some x) (hx : Loc X.env.scope x) (hf : X.fn x = true ∨ X.env.scope.names.lookup x = some .local)
    (hs : swapsWith e (some (.Name x p1)) pos.line X.env = pure false) (he : PE X e (rd X.K (E Γ ea))) : PS X (.Assign [.Name x p1] e pos) (rdS X.K (W1 Γ (.asg i ea))) :=
  ps_imp (ps_set hN hi hx he hs hf) fun D σ H h => asg_rd h
theorem s_aug {i : Nat} {x : Str} {e : Expr} {ea : Ex} {p1 : Pos} (hN : X.N.Nodup) (hi : X.N[i]? = some x) (hx : Loc X.env.scope x) (hf : X.fn x = true ∨ X.env.scope.names.lookup x = some .local)
    (he : PE X e (rd X.K (E Γ ea))) : PS X (.AugAssign (.Name x p1) .Add e pos) (rdS X.K (W1 Γ (.aug i ea))) :=
  ps_imp (ps_aug hN hi hx he ip_add hf) fun D σ H h => by
    obtain ⟨B, w, ρ, rfl, s, q⟩ := h
    simp only [W1] at q
    split at q <;> first | contradiction | skip
    rename_i n hρ
    obtain ⟨u, h1, x', e1, r1⟩ := s.sl i _ hρ
    subst e1
    cases r1
    refine ⟨.int n, h1, rd_go s (E.mono ea (fun r q w' v e o => ?_) q)⟩
    obtain ⟨m, e2, q⟩ := q
    obtain ⟨kd, d⟩ := r
    have e2 : d = .int m := e2
    subst e2
    exact ⟨n, m, rfl, o.int, q w' _ ((s.grow e).putF (Rp.int _))⟩
/-- the list of an owned slot -/
theorem own_at {w : Wd} {ρ : Env'} {σ : L2.St} {B : Bs} {i : Nat} {ds : List D} (s : SR K B w ρ σ) (h : ρ[i]? = some (.ol ds)) : ∃ p vs, σ[i]? = some (some (.ref p)) ∧ w.h p = some (.lst vs) ∧ w.b p = none ∧ RpA w.f vs ds := by
  obtain ⟨v, h1, p, vs, e1, e2, e3, e4⟩ := s.sl i _ h
  subst e1
  exact ⟨p, vs, h1, e2, e3, e4⟩
theorem few1 {e : Expr} {env : Env} {p : Pos} (h : hd e = true) : ((backTo p (starEach [e] env)).all (fun x => !x.1) && (backToKw p (keywordEach [] env)).all (fun x => x.1.isSome) && decide (([e] : List Expr).length + ([] : List Keyword).length + (if ([] : List Keyword).isEmpty then 0 else 1) < 30)) = true := by
  rw [star_hd h] <;> rfl
theorem s_app {i : Nat} {x : Str} {e : Expr} {ea : Ex} {p1 p2 p3 : Pos} (hi : X.N[i]? = some x) (hv : Vis X.env.scope x) (h1 : (x == ("__debug__" : Str)) = false) (h2 : (x == ("__classdict__" : Str)) = false) (hd1 : hd e = true) (hl : (p2.endLine == p3.line) = true)
    (he : PE X e (rd X.K (E Γ ea))) : PS X (.Expr (.Call (.Attribute (.Name x p1) "append" p2) [e] [] p3) pos) (rdS X.K (W1 Γ (.app i ea))) := by
  have pc := pe_bm (cpos := p3) (apos := p2) PySem.F.plainAttrs_list PySem.F.slot_list_append PySem.F.type_list_append mt_append (pe_var (X := X) (pos := p1) hi hv h1 h2) (pa_cons he pa_nil (star_hd hd1)) (hfew := few1 hd1) (hline := hl) (hs := star_hd hd1)
  refine ps_imp (ps_expr pc) fun D σ H h => ?_
  obtain ⟨B, w, ρ, rfl, s, q⟩ := h
  simp only [W1] at q
  split at q <;> first | contradiction | skip
  rename_i ds hρ
  obtain ⟨hz, q⟩ := q
  obtain ⟨l, vs, g1, g2, g3, g4⟩ := own_at s hρ
  refine ⟨.ref l, g1, .inl ⟨rfl, vs, SqL.of g2⟩, rd_go s (E.mono ea (fun r q w' v e o => ?_) q)⟩
  obtain ⟨d, c, q⟩ := q
  obtain ⟨w2, hh, e2, rv⟩ := o.clean e c
  have g2' : w2.h l = some (.lst vs) := e2.h _ _ g2
  refine ⟨l, vs, v, rfl, rfl, by rw [← hh]; exact g2', by rw [g4.len]; exact hz, ?_⟩
  rw [← hh]
  have g3' : w2.b l = none := (e2.b l (some_ne g2)).trans g3
  exact q ⟨w2.f, w2.b, upd w2.h l (.lst (vs ++ [v]))⟩ σ ((s.grow e2).change hρ rfl g1 g3' ⟨l, _, rfl, upd_same, g3', (g4.mono (e2.sf s.ok)).app (RpA.one rv)⟩)
theorem s_pop {i : Nat} {x : Str} {p1 p2 p3 : Pos} (hi : X.N[i]? = some x) (hv : Vis X.env.scope x) (h1 : (x == ("__debug__" : Str)) = false) (h2 : (x == ("__classdict__" : Str)) = false) (hl : (p2.endLine == p3.line) = true) :
    PS X (.Expr (.Call (.Attribute (.Name x p1) "pop" p2) [] [] p3) pos) (rdS X.K (W1 Γ (.pop i))) := by
  have pc := pe_bm0 (cpos := p3) (apos := p2) PySem.F.plainAttrs_list PySem.F.slot_list_pop PySem.F.type_list_pop mt_pop (pe_var (X := X) (pos := p1) hi hv h1 h2) (hline := hl)
  refine ps_imp (ps_expr pc) fun D σ H h => ?_
  obtain ⟨B, w, ρ, rfl, s, q⟩ := h
  simp only [W1] at q
  split at q <;> first | contradiction | skip
  rename_i ds hρ
  obtain ⟨ne, q⟩ := q
  obtain ⟨l, vs, g1, g2, g3, g4⟩ := own_at s hρ
  have nv : vs ≠ [] := fun z => by
    subst z
    cases g4
    exact ne rfl
  have hl : vs.length - 1 < vs.length := by
    have := List.length_pos_iff.mpr nv
    omega
  refine ⟨.ref l, g1, .inl ⟨rfl, vs, SqL.of g2⟩, l, vs, _, rfl, rfl, g2, List.getElem?_eq_getElem hl, ?_⟩
  refine q ⟨w.f, w.b, upd w.h l (.lst vs.dropLast)⟩ σ (s.change hρ rfl g1 g3 ⟨l, _, rfl, upd_same, g3, ?_⟩)
  rw [List.dropLast_eq_take, List.dropLast_eq_take, g4.len]
  exact g4.take _
theorem s_appPop {i j : Nat} {x y : Str} {e : Expr} {ea : Ex} {p1 p2 p3 p4 p5 p6 : Pos} (hi : X.N[i]? = some x) (hv : Vis X.env.scope x) (h1 : (x == ("__debug__" : Str)) = false) (h2 : (x == ("__classdict__" : Str)) = false)
    (hj : X.N[j]? = some y) (hvj : Vis X.env.scope y) (h1j : (y == ("__debug__" : Str)) = false) (h2j : (y == ("__classdict__" : Str)) = false) (hd1 : hd e = true) (hl : (p2.endLine == p3.line) = true) (hl2 : (p5.endLine == p6.line) = true)
    (he : PE X e (rd X.K (E Γ ea))) : PS X (.Expr (.Call (.Attribute (.Name x p1) "append" p2) [.Call (.Attribute (.Name y p4) "pop" p5) [e] [] p6] [] p3) pos) (rdS X.K (W1 Γ (.appPop i j ea))) := by
  have pp := pe_bm (cpos := p6) (apos := p5) PySem.F.plainAttrs_list PySem.F.slot_list_pop PySem.F.type_list_pop mt_popAt (pe_var (X := X) (pos := p4) hj hvj h1j h2j) (pa_cons he pa_nil (star_hd hd1)) (hfew := few1 hd1) (hline := hl2) (hs := star_hd hd1)
  have pc := pe_bm (cpos := p3) (apos := p2) PySem.F.plainAttrs_list PySem.F.slot_list_append PySem.F.type_list_append mt_append (pe_var (X := X) (pos := p1) hi hv h1 h2) (pa_cons pp pa_nil rfl) (hfew := few1 rfl) (hline := hl)
  refine ps_imp (ps_expr pc) fun D σ H h => ?_
  obtain ⟨B, w, ρ, rfl, s, q⟩ := h
  simp only [W1] at q
  split at q <;> first | contradiction | skip
  rename_i ds es hρ hρj
  obtain ⟨nij, hz, q⟩ := q
  obtain ⟨l, vs, g1, g2, g3, g4⟩ := own_at s hρ
  obtain ⟨m, us, f1, f2, f3, f4⟩ := own_at s hρj
  refine ⟨.ref l, g1, .inl ⟨rfl, vs, SqL.of g2⟩, .ref m, f1, .inl ⟨rfl, us, SqL.of f2⟩, rd_go s (E.mono ea (fun r q w' v e o => ?_) q)⟩
  obtain ⟨n, kk, d, e1, b1, b2, b3, b4, q⟩ := q
  obtain ⟨kd, dd⟩ := r
  have e1 : dd = .int n := e1
  subst e1
  have s' := s.grow e
  have f2' : w'.h m = some (.lst us) := e.h _ _ f2
  have g2' : w'.h l = some (.lst vs) := e.h _ _ g2
  have f3' : w'.b m = none := (e.b m (some_ne f2)).trans f3
  have g3' : w'.b l = none := (e.b l (some_ne g2)).trans g3
  have f4' := f4.mono (e.sf s.ok)
  have g4' := g4.mono (e.sf s.ok)
  obtain ⟨y', hy, ry⟩ := f4'.at b4
  have nlm : l ≠ m := fun z => nij (s.ne i j _ _ l hρ hρj rfl rfl g1 (z ▸ f1))
  refine ⟨m, us, n, kk, y', rfl, by rw [o.int], f2', b1, b2, by rw [f4'.len]; exact b3, hy, ?_⟩
  have s2 := s'.change hρj rfl f1 f3' (y := .ol (es.eraseIdx kk)) (o := .lst (us.eraseIdx kk)) ⟨m, _, rfl, upd_same, f3', f4'.del kk⟩
  have hρ2 : (ρ.set j (.ol (es.eraseIdx kk)))[i]? = some (.ol ds) := by
    rw [List.getElem?_set_ne (Ne.symm nij)]
    exact hρ
  refine ⟨l, vs, y', rfl, rfl, by rw [upd_ne nlm]; exact g2', by rw [g4.len]; exact hz, ?_⟩
  exact q ⟨w'.f, w'.b, upd (upd w'.h m (.lst (us.eraseIdx kk))) l (.lst (vs ++ [y']))⟩ σ (s2.change hρ2 rfl g1 g3' ⟨l, _, rfl, upd_same, g3', g4'.app (RpA.one ry)⟩)
theorem s_setx {i : Nat} {x : Str} {a e : Expr} {ia ea : Ex} {p1 p2 : Pos} (hu : X.A.units + 65 < cLine) (hi : X.N[i]? = some x) (hv : Vis X.env.scope x) (h1 : (x == ("__debug__" : Str)) = false) (h2 : (x == ("__classdict__" : Str)) = false)
    (hs : swapsWithSole [.Subscript (.Name x p1) a p2] e pos.line X.env = pure false) (hw : swappedStores [.Subscript (.Name x p1) a p2] e X.env = pure none) (hs2 : swapsWith e (some (.Subscript (.Name x p1) a p2)) pos.line X.env = pure false)
    (hasg : ∀ v, assign (.Subscript (.Name x p1) a p2) X.env v = (do
      let ov ← holding [v] (eval (.Name x p1) X.env)
      let iv ← holding [v, ov] (eval a X.env)
      standAt p2
      holding [v, ov, iv] (setItem ov iv v)
      release [v, ov, iv] []))
    (ha : PE X a (rd X.K (E Γ ia))) (he : PE X e (rd X.K (E Γ ea))) : PS X (.Assign [.Subscript (.Name x p1) a p2] e pos) (rdS X.K (W1 Γ (.setx i ia ea))) := by
  have pd : PE X (.Name x p1) (tVar i) := pe_var hi hv h1 h2
  have q1 : PS X (.Assign [.Subscript (.Name x p1) a p2] e pos) (tAsg (rd X.K (E Γ ea)) (gSub (tVar i) (rd X.K (E Γ ia)) rSetL)) := ps_asg he (pg_sub pd ha set_list hasg) hs hw rfl
  have q2 : PS X (.Assign [.Subscript (.Name x p1) a p2] e pos) (sDPut (tVar i) (rd X.K (E Γ ia)) (rd X.K (E Γ ea))) := ps_dput (by omega) pd ha he hs2
  refine ⟨fun pins st σ H D I h => ?_⟩
  obtain ⟨B, w, ρ, rfl, s, q⟩ := h
  simp only [W1] at q
  split at q <;> first | contradiction | skip
  · rename_i ds c
    refine q1.run pins st σ w.h D I (rd_go s (E.mono ea (fun r q w1 v e1 o1 => ?_) q))
    obtain ⟨d, cd, q⟩ := q
    obtain ⟨w2, hh, e2, rv⟩ := o1.clean e1 cd
    rw [← hh]
    obtain ⟨l, vs, g1, g2, g3, g4⟩ := own_at (s.grow e2) c
    refine ⟨.ref l, g1, rd_go (s.grow e2) (E.mono ia (fun r2 q w3 v3 e3 o3 => ?_) q)⟩
    obtain ⟨n, jj, en, hj, q⟩ := q
    obtain ⟨kd, dd⟩ := r2
    have en : dd = .int n := en
    subst en
    have g2' : w3.h l = some (.lst vs) := e3.h _ _ g2
    have g3' : w3.b l = none := (e3.b l (some_ne g2)).trans g3
    have g4' := g4.mono (e3.sf e2.ok)
    refine ⟨l, vs, n, jj, rfl, o3.int, g2', by rw [g4'.len]; exact hj, ?_⟩
    exact q ⟨w3.f, w3.b, upd w3.h l (.lst (vs.set jj v))⟩ σ (((s.grow e2).grow e3).change c rfl g1 g3' ⟨l, _, rfl, upd_same, g3', RpA.put (rv.mono (e3.sf e2.ok)) jj g4'⟩)
  · rename_i t kvs c
    refine q2.run pins st σ w.h D I (rd_go s (E.mono ea (fun r q w1 v e1 o1 => ?_) q))
    obtain ⟨d, cd, q⟩ := q
    obtain ⟨w2, hh, e2, rv⟩ := o1.clean e1 cd
    rw [← hh]
    obtain ⟨u, hu1, p, eu, hb, hd⟩ := (s.grow e2).sl i _ c
    subst eu
    refine ⟨.ref p, hu1, rd_go (s.grow e2) (E.mono ia (fun r2 q w3 v3 e3 o3 => ?_) q)⟩
    obtain ⟨c1, c2, c3, q⟩ := q
    obtain ⟨kd, dd⟩ := r2
    have c1 : kd = .cl := c1
    subst c1
    obtain ⟨u', hu', p', eu', hb', hd'⟩ := ((s.grow e2).grow e3).sl i _ c
    subst eu'
    rw [hu1] at hu'
    cases hu'
    obtain ⟨o, dp, dn⟩ := hd'.put e3.ok o3 c2 (rv.mono (e3.sf e2.ok)) c3
    exact ⟨p, upd w3.h p o, rfl, dp, q ⟨w3.f, w3.b, upd w3.h p o⟩ σ (((s.grow e2).grow e3).change c rfl hu1 hb' ⟨p, rfl, hb', dn⟩)⟩
/-! ### flow -/
theorem s_iff {c : Expr} {a b : List Stmt} {ec : Ex} {sa sb : Ss} (hc : PT X c (rt X.K Γ ec)) (ha : PSs X a (rdS X.K (W Γ sa))) (hb : PSs X b (rdS X.K (W Γ sb))) : PS X (.If c a b pos) (rdS X.K (W1 Γ (.iff ec sa sb))) :=
  ps_imp (ps_if hc ha hb) fun D σ H h => by
    obtain ⟨B, w, ρ, rfl, s, q⟩ := h
    show rt X.K Γ ec σ w.h fun b H1 => if b = true then rdS X.K (W Γ sa) D σ H1 else rdS X.K (W Γ sb) D σ H1
    refine rt_go s (E.mono ec (boolQ.mono fun k q w' e => ?_) q)
    cases k with
    | true =>
      rw [if_pos rfl] at q ⊢
      exact rdS_go (s.grow e) q
    | false =>
      rw [if_neg (by decide)] at q ⊢
      exact rdS_go (s.grow e) q
theorem frz_all {w : Wd} {ρ : Env'} {σ : L2.St} {B : Bs} (s : SR K B w ρ σ) : ∃ w', w'.h = w.h ∧ SR K B w' (frzAll ρ) σ := by
  have go : ∀ n, n ≤ ρ.length → ∃ w', w'.h = w.h ∧ SR K B w' ((ρ.take n).map frz1 ++ ρ.drop n) σ := by
    intro n
    induction n with
    | zero =>
      intro _
      refine ⟨w, rfl, ?_⟩
      simpa using s
    | succ n ih =>
      intro hn
      obtain ⟨w', h', s'⟩ := ih (by omega)
      have hlt : n < ρ.length := hn
      have e1 : ρ.take (n + 1) = ρ.take n ++ [ρ[n]] := by
        rw [List.take_add_one, List.getElem?_eq_getElem hlt] <;> rfl
      have e2 : ρ.drop n = ρ[n] :: ρ.drop (n + 1) := List.drop_eq_getElem_cons hlt
      have hlen : ((ρ.take n).map frz1).length = n := by
        rw [List.length_map, List.length_take]
        omega
      have e3 : (ρ.take (n + 1)).map frz1 ++ ρ.drop (n + 1) = ((ρ.take n).map frz1 ++ ρ.drop n).set n (frz1 ρ[n]) := by
        rw [e1, e2, List.map_append, List.append_assoc, List.set_append_right _ _ (by omega), hlen, Nat.sub_self]
        rfl
      rw [e3]
      have at_n : ((ρ.take n).map frz1 ++ ρ.drop n)[n]? = some ρ[n] := by
        rw [List.getElem?_append_right (by omega), hlen, Nat.sub_self, e2]
        rfl
      cases c : ρ[n] with
      | ol ds =>
        rw [c] at at_n
        obtain ⟨w2, h2, s2⟩ := s'.freeze at_n
        exact ⟨w2, h2.trans h', s2⟩
      | _ =>
        rw [c] at at_n
        refine ⟨w', h', ?_⟩
        have e4 : ((ρ.take n).map frz1 ++ ρ.drop n).set n ρ[n] = (ρ.take n).map frz1 ++ ρ.drop n := by
          refine List.ext_getElem? fun k => ?_
          by_cases ek : n = k
          · subst ek
            have hl : n < ((ρ.take n).map frz1 ++ ρ.drop n).length := (List.getElem?_eq_some_iff.mp at_n).1
            rw [List.getElem?_set_self hl, at_n, c]
          · rw [List.getElem?_set_ne ek]
        rw [c] at e4
        simp only [frz1]
        rw [e4]
        exact s'
  obtain ⟨w', h', s'⟩ := go ρ.length (Nat.le_refl _)
  rw [List.take_length, List.drop_length, List.append_nil] at s'
  exact ⟨w', h', s'⟩
theorem s_ret {e : Expr} {ea : Ex} (nv : ∀ i, ea ≠ .var i) (he : PE X e (rd X.K (E Γ ea))) : PS X (.Return (some e) pos) (rdS X.K (W1 Γ (.ret ea))) :=
  ps_imp (ps_ret he) fun D σ H h => by
    obtain ⟨B, w, ρ, rfl, s, q⟩ := h
    simp only [W1] at q
    split at q
    · rename_i ds c
      unfold retQ at c
      split at c <;> first | contradiction | exact absurd rfl (nv _)
    · obtain ⟨w1, h1, s1⟩ := frz_all s
      rw [← h1]
      refine rd_go s1 (E.mono ea (fun r q w' v e o => ?_) q)
      exact q.2 w' v (s1.ext.trans e) (o.early s1.ext.h) q.1
theorem s_retv {x : Str} {i : Nat} {p1 : Pos} (hN : X.N[i]? = some x) (hv : Vis X.env.scope x) (h1 : (x == ("__debug__" : Str)) = false) (h2 : (x == ("__classdict__" : Str)) = false) :
    PS X (.Return (some (.Name x p1)) pos) (rdS X.K (W1 Γ (.ret (.var i)))) :=
  ps_imp (ps_ret (pe_or2 (e_var (Γ := Γ) (pos := p1) hN hv h1 h2) (pe_var hN hv h1 h2))) fun D σ H h => by
    obtain ⟨B, w, ρ, rfl, s, q⟩ := h
    simp only [W1] at q
    split at q
    · rename_i ds c
      unfold retQ at c
      simp only at c
      split at c <;> first | contradiction | skip
      rename_i ds' hρ
      cases c
      obtain ⟨l, us, g1, g2, g3, g4⟩ := own_at s hρ
      exact .inr ⟨.ref l, g1, q w _ s.ext ⟨l, us, ds, rfl, rfl, s.newB g3, g2, g3, g4⟩ (.inl rfl)⟩
    · obtain ⟨w1, h1, s1⟩ := frz_all s
      rw [← h1]
      refine .inl (rd_go s1 (E.mono _ (fun r q w' v e o => ?_) q))
      exact q.2 w' v (s1.ext.trans e) (o.early s1.ext.h) q.1
theorem s_retN : PS X (.Return none pos) (rdS X.K (W1 Γ .retN)) := ps_imp ps_retN fun D σ H h => by
  obtain ⟨B, w, ρ, rfl, s, q⟩ := h
  exact q w .non s.ext Rp.non (.inr rfl)
theorem s_brk : PS X (.Break pos) (rdS X.K (W1 Γ .brk)) := ps_imp ps_break fun D σ H h => by
  obtain ⟨B, w, ρ, rfl, s, q⟩ := h
  exact q w σ s
theorem s_cnt : PS X (.Continue pos) (rdS X.K (W1 Γ .cnt)) := ps_imp ps_continue fun D σ H h => by
  obtain ⟨B, w, ρ, rfl, s, q⟩ := h
  exact q w σ s
theorem s_pas : PS X (.Pass pos) (rdS X.K (W1 Γ .pas)) := ps_imp ps_pass fun D σ H h => by
  obtain ⟨B, w, ρ, rfl, s, q⟩ := h
  exact q w σ s
theorem s_doc {z : Str} {j : Nat} {p1 : Pos} : PS X (.Expr (.Constant (.str z) j p1) pos) (rdS X.K (W1 Γ .pas)) := ps_imp ps_doc fun D σ H h => by
  obtain ⟨B, w, ρ, rfl, s, q⟩ := h
  exact q w σ s
theorem s_drop {e : Expr} {ea : Ex} (hs : swapsWith e none pos.line X.env = pure false) (he : PE X e (rd X.K (E Γ ea))) : PS X (.Expr e pos) (rdS X.K (W1 Γ (.drop ea))) :=
  ps_imp (ps_expr he hs) fun D σ H h => by
    obtain ⟨B, w, ρ, rfl, s, q⟩ := h
    exact rd_go s (E.mono ea (fun r q w' v e o => q w' σ (s.grow e)) q)
/-! ### loops -/
theorem s_whl {c : Expr} {body : List Stmt} {ec : Ex} {sb : Ss} (hp : PassesOwn (model X.prog X.w) X.A X.env X.xe) (hc : PT X c (rt X.K Γ ec)) (hb : PSs X body (rdS X.K (W Γ sb))) : PS X (.While c body [] pos) (rdS X.K (W1 Γ (.whl ec sb))) :=
  ps_imp (ps_while hp hc hb) fun D σ H h => by
    obtain ⟨B, w, ρ, rfl, s, q⟩ := h
    simp only [W1] at q
    obtain ⟨I, ⟨m0, h0⟩, q⟩ := q
    refine ⟨fun m σ H => ∃ w ρ, w.h = H ∧ SR X.K B w ρ σ ∧ I m ρ, ⟨m0, w, ρ, rfl, s, h0⟩, ?_⟩
    rintro m σ1 H1 ⟨w1, ρ1, rfl, s1, i1⟩
    refine rt_go s1 (E.mono ec (boolQ.mono fun k q w' e => ?_) (q m ρ1 i1))
    cases k with
    | true =>
      rw [if_pos rfl] at q ⊢
      refine ⟨fun σ' H' => ∃ m', m' < m ∧ ∃ w ρ, w.h = H' ∧ SR X.K B w ρ σ' ∧ I m' ρ, fun σ' H' z => z, rdS_go (s1.grow e) (W.mono sb (N := { nx := fun ρ2 => ∃ m', m' < m ∧ I m' ρ2, rt := (ends X.K B D).rt, bk := (ends X.K B D).nx, ct := fun ρ2 => ∃ m', m' < m ∧ I m' ρ2 }) (N' := ends X.K B { D with nx := fun σ' H' => ∃ m', m' < m ∧ ∃ w ρ, w.h = H' ∧ SR X.K B w ρ σ' ∧ I m' ρ, ct := fun σ' H' => ∃ m', m' < m ∧ ∃ w ρ, w.h = H' ∧ SR X.K B w ρ σ' ∧ I m' ρ, bk := D.nx }) ⟨fun ρ2 z w2 σ2 s2 => ?_, fun r z => z, fun ρ2 z => z, fun ρ2 z w2 σ2 s2 => ?_⟩ q)⟩
      · obtain ⟨m', h1, h2⟩ := z
        exact ⟨m', h1, w2, ρ2, rfl, s2, h2⟩
      · obtain ⟨m', h1, h2⟩ := z
        exact ⟨m', h1, w2, ρ2, rfl, s2, h2⟩
    | false =>
      rw [if_neg (by decide)] at q ⊢
      exact q w' σ1 (s1.grow e)
theorem s_each {x : Str} {it : Expr} {body : List Stmt} {j : Nat} {sr : Sr} {sb : Ss} {p1 : Pos} (hp : PassesOwn (model X.prog X.w) X.A X.env X.xe) (hc : X.calm = true) (hN : X.N.Nodup) (hj : X.N[j]? = some x) (hx : Loc X.env.scope x) (hf : X.fn x = true ∨ X.env.scope.names.lookup x = some .local)
    (hh : hd it = true) (hi : PI X (.Name x p1) it (rdI X.K (srcW Γ sr))) (hb : PSs X body (rdS X.K (W Γ sb))) : PS X (.For (.Name x p1) it body [] pos) (rdS X.K (W1 Γ (.each j sr sb))) :=
  ps_imp (ps_for hp hc hi (pg_name hN hj hx hf) hb (hs := fun y => set_hd hh y)) fun D σ H h => by
    obtain ⟨B, w, ρ, rfl, s, q⟩ := h
    simp only [W1] at q
    refine rdI_go s (srcW.mono sr (fun kd ds q w1 J e1 src => ?_) q)
    obtain ⟨no, I, h0, hstep, hend⟩ := q
    have s1 := (s.grow e1).hold
    have hb1 := src.2 no
    refine ⟨fun i m σ H => m = ds.length - i ∧ i ≤ ds.length ∧ ∃ w ρ, w.h = H ∧ SR X.K ⟨B.w, w1.f, w1.b⟩ w ρ σ ∧ I i ρ, ⟨ds.length, by omega, Nat.zero_le _, w1, ρ, rfl, s1, h0⟩, ?_⟩
    rintro i m σ2 H2 ⟨rfl, hi2, w2, ρ2, rfl, s2, i2⟩
    have here : Here X.K w2.h w2.f ds J := hb1.mono (s2.pb.trans s2.ok.bh) s2.pf
    by_cases lt : i < ds.length
    · obtain ⟨go, yl⟩ := here_go here (List.getElem?_eq_getElem lt)
      refine .inr ⟨go, fun σ' H' => ∃ w ρ, w.h = H' ∧ SR X.K ⟨B.w, w1.f, w1.b⟩ w ρ σ' ∧ I (i + 1) ρ, fun σ' H' z => ⟨ds.length - (i + 1), by omega, rfl, lt, z⟩, fun y H' hy => ?_⟩
      obtain ⟨eH, ry⟩ := yl y H' hy
      subst eH
      refine rdS_go (s2.putF ry) (W.mono sb (N := { nx := I (i + 1), rt := (ends X.K B D).rt, bk := (ends X.K B D).nx, ct := I (i + 1) }) (N' := ends X.K ⟨B.w, w1.f, w1.b⟩ { D with nx := fun σ' H' => ∃ w ρ, w.h = H' ∧ SR X.K ⟨B.w, w1.f, w1.b⟩ w ρ σ' ∧ I (i + 1) ρ, ct := fun σ' H' => ∃ w ρ, w.h = H' ∧ SR X.K ⟨B.w, w1.f, w1.b⟩ w ρ σ' ∧ I (i + 1) ρ, bk := D.nx }) ⟨fun ρ3 z w3 σ3 s3 => ⟨w3, ρ3, rfl, s3, z⟩, fun r z => z, fun ρ3 z w3 σ3 s3 => z w3 σ3 ((s.grow e1).loose s3), fun ρ3 z w3 σ3 s3 => ⟨w3, ρ3, rfl, s3, z⟩⟩ (hstep i _ ρ2 (List.getElem?_eq_getElem lt) i2))
    · have ei : i = ds.length := by omega
      subst ei
      exact .inl ⟨here_stop here (Nat.le_refl _), hend ρ2 i2 w2 σ2 ((s.grow e1).loose s2)⟩
end
end Ir

set_option Elab.async false
set_option linter.all false
set_option maxRecDepth 100000
set_option maxHeartbeats 1000000
/-! Ir10: dicts whose keys are tuples: a display of one pair, a comprehension. -/
namespace Ir
open PySem
open L2
open PySem.Spec

section
variable {X : Cx}
/-- a pair is put in such a dict -/
theorem dt_put {pins : List (Addr × Obj)} {σ : L2.St} {H : Hp} {s : Shared} {F : Value → Shared → Prop} {q b : Addr} {es : List (List Key × V)} {ks : List Key} {v : V} {u : Value} {P : Unit → Shared → Prop} (J : Inv X pins σ H s) (room : X.A.units < cLine)
    (hq : H q = some (.dT es)) (hz : es.length < sizeLine) (hb : H b = some (.tup (ks.map kV))) (rv : RelV v u) (go : ∀ s', Inv X pins σ (upd H q (.dT (putK es ks v))) s' → P () s') : wpAny (model X.prog X.w) X.A (dictSet q (.ref b) u) P F s := by
  obtain ⟨_, nosys, xs, rel, dd⟩ := dt_of J.hok hq
  have lx : xs.length ≤ sizeLine := by
    rw [← Paired.length rel]
    omega
  have lp : (putK es ks v).length ≤ sizeLine := Nat.le_trans (length_putK es ks v) hz
  refine wpAny_dictSet_heap (hsz := lx) (show (tupleKind (mixKind X.prog X.w)).room X.A from room) (key_of J.hok hb) dd fun h2 d2 but => go _ ?_
  obtain ⟨o2, e2, p2, g2, k1, k2, k3, _, k5⟩ := d2
  have whole : ∀ c ys, H c = some (.tup ys) → upd H q (.dT (putK es ks v)) c = some (.tup ys) := fun c ys ec => by
    rw [upd_ne (ne_of ec hq (by intro z; cases z))]
    exact ec
  exact d_write J (by rw [hq]; exact True.intro) but ⟨o2, g2⟩ ⟨lp, nosys, _, (rel.put ks hb rv).keeps whole, o2, e2, p2, g2, k1, k2, k3, k5⟩
/-- {k: v}, the key a tuple -/
def tDisp1 (tk tv : TE) : TE := fun σ H Q => ∀ q, H q = none → tk σ (upd H q (.dT [])) fun x H1 => tv σ H1 fun y H2 => ∃ b ks, x = .ref b ∧ H2 b = some (.tup (ks.map kV)) ∧ H2 q = some (.dT []) ∧ Q (.ref q) (upd H2 q (.dT [(ks, y)]))
def oneP (q : Addr) (Q : VK) : List (V × V) → Hp → Prop := fun ps H2 => match ps with
  | [(x, y)] => ∃ b ks, x = .ref b ∧ H2 b = some (.tup (ks.map kV)) ∧ H2 q = some (.dT []) ∧ Q (.ref q) (upd H2 q (.dT [(ks, y)]))
  | _ => False
theorem pe_disp1 {a e : Expr} {ta te : TE} {pos : Pos} (room : X.A.units < cLine) (ha : PE X a ta) (he : PE X e te) : PE X (.Dict [some a] [e] pos) (tDisp1 ta te) := by
  refine ⟨fun pins s σ H Q J h => ?_⟩
  have nw := J.hok.fresh (Nat.le_refl s.heap.objs.size)
  have J1 := J.laid (a := s.heap.objs.size) (o := .dT []) (h' := s.heap.push { cls := .type "dict", data := .dict #[] }) (t' := s.toks) (fun _ _ z => Heap.get?_push_of_some _ z) (Nat.le_refl _) (dt_empty s.heap J.big)
  have rdg : tPairs [(ta, te)] σ (upd H s.heap.objs.size (.dT [])) (oneP s.heap.objs.size Q) := h _ nw
  refine PySem.wpAny_Dict_any rfl rfl (by simp) (by simp) ?_
  refine thn ((pps_cons ha he pps_nil).run pins _ σ _ _ J1 rdg) fun ws s2 ⟨ps, H2, J2, rel, q⟩ => ?_
  unfold oneP at q
  split at q <;> first | contradiction | skip
  obtain ⟨b, ks, e2, e3, e4, q⟩ := q
  cases rel with
  | @cons _ w2 _ _ r rr =>
    cases rr
    obtain ⟨u1, u2⟩ := w2
    obtain ⟨r1, r2⟩ := r
    subst e2
    cases (show u1 = Value.ref b from r1)
    unfold PySem.storeAll
    rw [List.forIn_cons]
    refine wpAny_bind (wpAny_bind (dt_put J2 room e4 (by decide) e3 r2 fun s3 J3 => wpAny_pure ?_))
    show wpAny _ _ (forIn ([] : List (Value × Value)) _ _) _ _ _
    rw [List.forIn_nil]
    exact wpAny_pure ⟨.ref s.heap.objs.size, _, J3, rfl, q⟩
/-- {k: v for x in ..}, its keys tuples: D the new dict, W what holds by the turn and a measure, Nx what a turn is to reach -/
def tDcT (wi : TI) (g : TG) (tk tv : TE) (vs : List Nat) : TE := fun σ H Q => wi σ H fun J H1 => ∀ D, H1 D = none → ∃ W : Nat → Nat → Hp → Prop, (∃ m, W 0 m (upd H1 D (.dT []))) ∧ ∀ i m H, W i m H → (J.stop i H ∧ Q (.ref D) H) ∨
  (J.go i H ∧ ∃ Nx : Hp → Prop, (∀ H', Nx H' → ∃ m', m' < m ∧ W (i + 1) m' H') ∧ ∀ x H', J.yld i H x H' → g x (wipe σ vs) H' fun σ2 H2 => wipe σ2 vs = wipe σ vs ∧ tk σ2 H2 fun y H4 => tv σ2 H4 fun z H5 =>
    ∃ b ks es, y = .ref b ∧ H5 b = some (.tup (ks.map kV)) ∧ H5 D = some (.dT es) ∧ es.length < sizeLine ∧ Nx (upd H5 D (.dT (putK es ks z))))
theorem dct_core {pins : List (Addr × Obj)} {s : Shared} {σ : L2.St} {H : Hp} {Q : VK} {kx vx tg iter : Expr} {scope : Scope} {own : List (Str × Nat)} {pos pos' : Pos} {wi : TI} {g : TG} {tk tv : TE} {use : Option (Value → Sem Unit)} {Qf : Value → Shared → Prop}
    (calm : X.calm = true) (room : X.A.units < cLine) (nd : X.N.Nodup) (Z : Inv X pins σ H s) (hi : PI X tg iter wi) (bo : BlkOk X.N X.env.scope scope own)
    (hg : ∀ (t : Shared) (G : Hp) (C : Addr) (cl : List (Str × Addr)) (fp : List Addr), PG (X.blk t G scope (compEnvC scope cl C X.env) fp) tg g)
    (hk : ∀ (t : Shared) (G : Hp) (C : Addr) (cl : List (Str × Addr)) (fp : List Addr), PE (X.blk t G scope (compEnvC scope cl C X.env) fp) kx tk)
    (hv : ∀ (t : Shared) (G : Hp) (C : Addr) (cl : List (Str × Addr)) (fp : List Addr), PE (X.blk t G scope (compEnvC scope cl C X.env) fp) vx tv) (hs : ∀ x, foldedSetIterable iter X.env x = pure x)
    (read : tDcT wi g tk tv (own.map (·.2)) σ H Q)
    (after : ∀ D C t m G, Inv X pins σ G t → Q (.ref D) G → t.heap.Ns C m → FpOk X pins G C → compPost (model X.prog X.w) X.A X.xe use Qf (.ref D) C (.ok .next) t) :
    wpAny (model X.prog X.w) X.A (comprehension (.DictComp kx vx [⟨tg, iter, [], 0⟩] scope pos) scope X.env pos' newDict false (eval iter X.env) use) Qf X.xe s := by
  have celled : ∀ y ∈ scope.names, y.2 = .free → ∃ c, X.env.cells.lookup y.1 = some c := by
    intro y hy e
    rcases bo.free y hy e with q | q
    · exact Z.ok.has _ (.inl q)
    · exact Z.ok.has _ (.inr q)
  have uni : ∀ y ∈ scope.names, y.2 = .local → scope.names.lookup y.1 = some .local := fun y hy e => by
    have := bo.uniq y hy
    rw [e] at this
    exact this
  refine wpAny_comprehension_free (use := use) rfl hs (closure_ok celled) bo.kind uni (thn (hi.run pins s σ H _ Z read) fun u t1 hx => thn hx fun v t2 h2 => ?_)
  obtain ⟨it, fp, tn, J, G2, e, Z2, T, at2, f2, q⟩ := h2
  subst e
  refine wpAny_newObj_type (newEnv_comp ?_)
  generalize eD : t2.heap.objs.size = D
  obtain ⟨W, ⟨m0, w0⟩, turn⟩ := q D (Z2.hok.fresh (Nat.le_of_eq eD))
  -- the empty dict is laid
  generalize e3 : ({ t2 with heap := t2.heap.push { cls := .type "dict", data := .dict #[] } } : Shared) = t3
  have Z3 : Inv X pins σ (upd G2 D (.dT [])) t3 := by
    subst e3 eD
    exact Z2.laid (t' := t2.toks) (fun _ _ z => Heap.get?_push_of_some _ z) (Nat.le_refl _) (dt_empty t2.heap Z2.big)
  have hp3 : t3.heap = t2.heap.push { cls := .type "dict", data := .dict #[] } := by rw [← e3]
  have old : ∀ b ∈ fp, b < t2.heap.objs.size := fun b hb => by
    obtain ⟨_, z, _⟩ := T.obj _ _ at2 b hb
    exact Heap.lt_size z
  have f3 : ∀ b ∈ fp, FpOk X pins (upd G2 D (.dT [])) b ∧ b < t3.heap.objs.size := by
    intro b hb
    have lt := old b hb
    refine ⟨⟨?_, (f2 b hb).2⟩, by rw [hp3, Heap.size_push]; exact Nat.lt_succ_of_lt lt⟩
    rw [upd_ne (show b ≠ D from fun z => by rw [z, ← eD] at lt; exact Nat.lt_irrefl _ lt)]
    exact (f2 b hb).1
  have at3 : tn 0 t3.heap := T.keep _ _ _ at2 fun b _ o z => by
    rw [hp3]
    exact Heap.get?_push_of_some _ z
  have Z4 := block_start Z3 bo nd f3
  have pg := hg t3 (upd G2 D (.dT [])) t3.heap.objs.size (cellsFrom (t3.heap.objs.size + 1) scope.names (cloFrom X.env.cells scope.names [])) fp
  have pk := hk t3 (upd G2 D (.dT [])) t3.heap.objs.size (cellsFrom (t3.heap.objs.size + 1) scope.names (cloFrom X.env.cells scope.names [])) fp
  have pv := hv t3 (upd G2 D (.dT [])) t3.heap.objs.size (cellsFrom (t3.heap.objs.size + 1) scope.names (cloFrom X.env.cells scope.names [])) fp
  show codeAny _ _ (.compStart (.DictComp kx vx [⟨tg, iter, [], 0⟩] scope pos) 0 (.ref it) (.ref D) (compEnvC scope (cellsFrom (t3.heap.objs.size + 1) scope.names (cloFrom X.env.cells scope.names [])) t3.heap.objs.size X.env))
    (compPost (model X.prog X.w) X.A X.xe use Qf (.ref D) t3.heap.objs.size) { t3 with heap := pushCells (t3.heap.push { cls := .type "dict", data := .dict #[] }) scope.names }
  have free3 : ∀ b ∈ fp, (upd G2 D (.dT [])) b = none := fun b hb => (f3 b hb).1.1
  generalize ec : compEnvC scope (cellsFrom (t3.heap.objs.size + 1) scope.names (cloFrom X.env.cells scope.names [])) t3.heap.objs.size X.env = ce at Z4 pg pk pv ⊢
  have here : ce.locals = t3.heap.objs.size := by subst ec; rfl
  generalize e5 : upd G2 D (.dT []) = G3 at Z3 Z4 pg pk pv w0 free3 f3
  generalize e6 : ({ t3 with heap := pushCells (t3.heap.push { cls := .type "dict", data := .dict #[] }) scope.names } : Shared) = t4 at Z4 ⊢
  have at4 : tn 0 t4.heap := T.keep _ _ _ at3 fun b _ o z => by
    rw [← e6]
    exact pushCells_keeps _ _ _ _ (Heap.get?_push_of_some _ z)
  have own4 : ∀ {σ' : L2.St} {G : Hp} {t : Shared}, Inv (X.blk t3 G3 scope ce fp) [] σ' G t → (∀ b ∈ fp, G b = none) → ∀ b ∈ fp, FpOk (X.blk t3 G3 scope ce fp) [] G b := by
    intro σ' G t Y no b hb
    refine ⟨no b hb, (Y.ok.exf b hb).1, Y.ok.exfs b hb, .inl hb, fun x c z => (Y.ok.exf b hb).2 x c z, fun p hp => ?_⟩
    have hp : p ∈ ([] : List (Addr × Obj)) ++ [] := hp
    simp at hp
  have all : codeAny (model X.prog X.w) X.A (.compLoop (.DictComp kx vx [⟨tg, iter, [], 0⟩] scope pos) 0 (.ref it) (.ref D) ce) (compPost (model X.prog X.w) X.A X.xe use Qf (.ref D) t3.heap.objs.size) t4 := by
    refine compLoop_anyD (fun n t => ∃ i G, Inv (X.blk t3 G3 scope ce fp) [] (wipe σ (own.map (·.2))) G t ∧ tn i t.heap ∧ (∀ b ∈ fp, G b = none) ∧ W i n G) ?_ m0 ⟨0, G3, Z4, at4, free3, w0⟩
    rintro n t5 ⟨i, G5, Z5, at5, no5, w5⟩
    cases turn i n G5 w5 with
    | inl fin =>
      obtain ⟨stop, qq⟩ := fin
      refine thnF (T.done (X.blk t3 G3 scope ce fp) rfl rfl rfl calm i [] t5 _ G5 (fun _ _ => False) Z5 (own4 Z5 no5) at5 stop) fun r t6 ⟨hr, Z6⟩ => ?_
      subst hr
      have Z7 : Inv X pins σ G5 t6 := Z3.call' (ch := fp) Z6.os Z6.base Z6.hok Z6.bare fun b hb => by
        obtain ⟨_, a1, a2, a3, a4, a5⟩ := (f3 b hb).1
        exact ⟨a3, a1, a4, a5⟩
      have noC : G5 t3.heap.objs.size = none := by
        rw [← here]
        exact Z6.free
      obtain ⟨m, hn, _⟩ := Z6.loc
      have hn : t6.heap.Ns ce.locals m := hn
      rw [here] at hn
      exact after D t3.heap.objs.size t6 m G5 Z7 qq hn (Z3.fpOk (Nat.le_refl _) noC)
    | inr more =>
      obtain ⟨go, Nx, hNx, step⟩ := more
      refine thnF (T.item (X.blk t3 G3 scope ce fp) rfl rfl rfl calm i [] t5 _ G5 (fun _ _ => False) Z5 (own4 Z5 no5) at5 go) fun r t6 ⟨u, hr, h6⟩ => ?_
      subst hr
      refine thnF h6 fun _ t7 ⟨x, G7, Z7, r7, y7, at7, no7⟩ => ?_
      have P7 := Z7.pinned (own4 Z7 no7) (T.obj _ _ at7)
      refine thnF (pg.run _ t7 _ G7 x u _ P7 r7 (step x G7 y7)) fun _ t8 ⟨σ8, G8, Z8, wip, q8⟩ => ?_
      refine thnF ((pts_nil (X := X.blk t3 G3 scope ce fp)).run _ t8 σ8 G8 (fun b G => b = true ∧ G = G8) Z8 ⟨rfl, rfl⟩) fun b t9 ⟨G9, Z9, eb, eG⟩ => ?_
      subst eb eG
      simp only [if_true]
      refine thnF (pk.run _ t9 σ8 G9 _ Z9 q8) fun z t10 ⟨yk, G10, Z10, r10, q10⟩ => ?_
      refine thnF (pv.run _ t10 σ8 G10 _ Z10 q10) fun z2 t11 ⟨yv, G11, Z11, r11, b, ks, es, ek, hb, hD, hz, nx⟩ => ?_
      subst ek
      cases (show z = Value.ref b from r10)
      refine dt_put (X := X.blk t3 G3 scope ce fp) Z11 room hD hz hb r11 fun t12 Z12 => ?_
      -- back to the invariant
      obtain ⟨m', lt, w'⟩ := hNx _ nx
      have still : ∀ c ∈ fp, ∀ o, t7.heap.get? c = some o → t12.heap.get? c = some o ∧ (upd G11 D (.dT (putK es ks yv))) c = none := fun c hc o z => by
        have y := Z12.pin (c, o) (List.mem_append_right _ (List.mem_append_right _ (mem_pinsAt hc z)))
        exact ⟨y.1, y.2.1⟩
      have ln : (wipe σ (own.map (·.2))).length = σ8.length := by rw [← wip, wipe_length]
      refine ⟨m', lt, i + 1, _, (Z12.unpinned (pins := [])).weak ln (fun j v z => ?_), T.keep _ _ _ at7 fun c hc o z => (still c hc o z).1, fun c hc => ?_, w'⟩
      · rw [← wip] at z
        exact (wipe_some z).1
      · obtain ⟨o, z, _⟩ := T.obj _ _ at7 c hc
        exact (still c hc o z).2
  exact codeAny_compStart_dict all (T.self X.A 0 _ _ _ at4 all)
theorem pe_dct {kx vx tg iter : Expr} {scope : Scope} {own : List (Str × Nat)} {pos : Pos} {wi : TI} {g : TG} {tk tv : TE} (calm : X.calm = true) (room : X.A.units < cLine) (nd : X.N.Nodup) (hi : PI X tg iter wi) (bo : BlkOk X.N X.env.scope scope own)
    (hg : ∀ (t : Shared) (G : Hp) (C : Addr) (cl : List (Str × Addr)) (fp : List Addr), PG (X.blk t G scope (compEnvC scope cl C X.env) fp) tg g)
    (hk : ∀ (t : Shared) (G : Hp) (C : Addr) (cl : List (Str × Addr)) (fp : List Addr), PE (X.blk t G scope (compEnvC scope cl C X.env) fp) kx tk)
    (hv : ∀ (t : Shared) (G : Hp) (C : Addr) (cl : List (Str × Addr)) (fp : List Addr), PE (X.blk t G scope (compEnvC scope cl C X.env) fp) vx tv) (hs : ∀ x, foldedSetIterable iter X.env x = pure x) :
    PE X (.DictComp kx vx [⟨tg, iter, [], 0⟩] scope pos) (tDcT wi g tk tv (own.map (·.2))) := by
  refine ⟨fun pins s σ H Q Z h => ?_⟩
  rw [arm_eval_DictComp]
  refine dct_core calm room nd Z hi bo hg hk hv hs h fun D C t m G Y q hn f => ⟨m, hn, fun h2 but => ?_⟩
  obtain ⟨a0, a1, a2, a3, a4, a5⟩ := f
  exact ⟨.ref D, G, Y.turned (t' := t.toks) (fun b o hb z => (but.2 b hb).trans z) a0 a1 a3 a4 a5, rfl, q⟩
theorem ps_setDct {i : Nat} {y : Str} {py : Pos} {kx vx tg iter : Expr} {scope : Scope} {own : List (Str × Nat)} {pos spos : Pos} {wi : TI} {g : TG} {tk tv : TE} (calm : X.calm = true) (room : X.A.units < cLine) (nd : X.N.Nodup) (hy : X.N[i]? = some y) (hyl : X.env.scope.names.lookup y = some .local)
    (hsw : swapsWith (.DictComp kx vx [⟨tg, iter, [], 0⟩] scope pos) (some (.Name y py)) spos.line X.env = pure true) (hi : PI X tg iter wi) (bo : BlkOk X.N X.env.scope scope own)
    (hg : ∀ (t : Shared) (G : Hp) (C : Addr) (cl : List (Str × Addr)) (fp : List Addr), PG (X.blk t G scope (compEnvC scope cl C X.env) fp) tg g)
    (hk : ∀ (t : Shared) (G : Hp) (C : Addr) (cl : List (Str × Addr)) (fp : List Addr), PE (X.blk t G scope (compEnvC scope cl C X.env) fp) kx tk)
    (hv : ∀ (t : Shared) (G : Hp) (C : Addr) (cl : List (Str × Addr)) (fp : List Addr), PE (X.blk t G scope (compEnvC scope cl C X.env) fp) vx tv) (hs : ∀ x, foldedSetIterable iter X.env x = pure x) :
    PS X (.Assign [.Name y py] (.DictComp kx vx [⟨tg, iter, [], 0⟩] scope pos) spos) (tAsg (tDcT wi g tk tv (own.map (·.2))) (gName i)) := by
  refine ⟨fun pins s σ H E Z h => ?_⟩
  rw [exec_Assign_Name_used _ _ _ _ hsw]
  refine wpAny_bind (wpAny_standAt (wpAny_bind ?_))
  have h : tDcT wi g tk tv (own.map (·.2)) σ H (fun x G => gName i x σ G E.nx) := h
  show wpAny _ X.A (do
    let _ ← comprehension (.DictComp kx vx [⟨tg, iter, [], 0⟩] scope pos) scope X.env (firstIterPos [⟨tg, iter, [], 0⟩] pos) newDict false (eval iter X.env) (some (assign (.Name y py) X.env))) _ _ s
  refine wpAny_bind (thn (dct_core (Qf := fun _ t => SP X pins E .next t) calm room nd Z hi bo hg hk hv hs h fun D C t m G Y q hn f => ?_) fun _ t hq => wpAny_pure (wpAny_pure hq))
  obtain ⟨a0, a1, a2, a3, a4, a5⟩ := f
  show wpAny _ _ (assign (.Name y py) X.env (.ref D)) _ _ _
  refine wpAny_assign_Name (store_ok2 (v := V.ref D) Y nd hy (.inl hyl) rfl (fun t2 Y2 ⟨a, but, ha⟩ => ?_) (.inr hyl))
  have apart : C ≠ a := by
    cases ha with
    | inl z => rw [z]; exact a1
    | inr z => exact fun w => a4 y a z w.symm
  exact ⟨m, hn.sameBut but apart, fun h3 but3 => ⟨_, G, Y2.turned (t' := t2.toks) (fun b o hb z => (but3.2 b hb).trans z) a0 a1 a3 a4 a5, q⟩⟩
end
end Ir

set_option Elab.async false
set_option linter.all false
set_option maxRecDepth 100000
set_option maxHeartbeats 1000000
/-! Ir11: sorted of int tuples of one length, any number of them. -/
namespace Ir
open PySem
open L2
open PySem.Spec
open PyProof.Rows (IntsAre)

section
variable {prog : Program} {w : World} {A : Around} {E : Value → Shared → Prop} {s : Shared}
open TS in
theorem lexG {b : Bool} {Q : Bool → Shared → Prop} {xs : List Value} {ns : List Int} (hx : IntsAre xs ns) : ∀ (i : Nat) {ys : List Value} {ms : List Int}, IntsAre ys ms → ns.length = ms.length → Q (HT.lexLt ns ms) s → PySem.W.KatLex prog w A b false Q (xs.zip ys) i s := by
  induction hx with
  | nil =>
    intro i ys ms hy hl h
    cases hy with
    | nil => exact PySem.W.kat_nil h
    | cons _ _ _ => cases hl
  | @cons p t xs ns hx ih =>
    intro i ys ms hy hl h
    cases hy with
    | nil => cases hl
    | @cons q u ys ms hy =>
      rw [HT.lexLt_cons] at h
      show PySem.W.KatLex prog w A b false Q ((Value.int p t, Value.int q u) :: xs.zip ys) i s
      refine PySem.W.kat_cons (wpAny_eqBool_int ?_)
      rcases Decidable.em (p = q) with c | c
      · subst c
        rw [beq_self_eq_true]
        rw [if_pos rfl] at h
        exact PySem.W.kat_yes (ih (i + 1) hy (Nat.succ.inj hl) h)
      · rw [if_neg c] at h
        rw [beq_eq_false_iff_ne.mpr c]
        exact PySem.W.kat_no (oneLt_ints _ h)
open TS in
theorem cmpG {n : Nat} {vs : List Value} {k : Value → List Int} (hv : ∀ v ∈ vs, TupInts s.heap v (k v) ∧ (k v).length = n) : SrtO.Cmp prog w A s (PyProof.Rows.tuples' true) (fun p => p.1 ∈ vs) (SrtO.lt2 fun v u => HT.lexLt (k v) (k u)) := by
  intro p q hp hq
  obtain ⟨⟨a, xs, e, ⟨o, ho, hc, m, hd⟩, i1⟩, l1⟩ := hv _ hp
  obtain ⟨⟨a2, ys, e2, ⟨o2, ho2, hc2, m2, hd2⟩, i2⟩, l2⟩ := hv _ hq
  show wpAny (model prog w) A (PyProof.Rows.keyLt' (PyProof.Rows.tuples' true) p.1 q.1) (fun r s' => s' = s ∧ r = HT.lexLt (k p.1) (k q.1)) (fun _ _ => False) s
  generalize k p.1 = ns at *
  generalize k q.1 = ms at *
  rw [e, e2]
  refine PySem.W.kat_lt ho hd ho2 hd2 ?_
  have z1 := i1.length
  have z2 := i2.length
  rw [Array.length_toList] at z1 z2
  have z : decide (xs.size < ys.size) = false := decide_eq_false (by omega)
  rw [z]
  exact lexG i1 0 i2 (by omega) ⟨rfl, rfl⟩
open TS in
theorem headsG {h : Heap} {n : Nat} (hn : 1 ≤ n) : ∀ {vs : List Value} {k : Value → List Int}, (∀ v ∈ vs, TupInts h v (k v) ∧ (k v).length = n) → ∃ fs, PySem.W.KatTups h vs fs ∧ fs.length = vs.length ∧ ∀ f, f ∈ fs → ∃ n t, f = Value.int n t
  | [], k, _ => ⟨[], .nil, rfl, fun f hf => nomatch hf⟩
  | v :: vs, k, x => by
    obtain ⟨fs, h1, h2, h3⟩ := headsG hn (vs := vs) fun u hu => x u (.tail _ hu)
    obtain ⟨⟨a, xs, rfl, ⟨o, ho, hc, m, hd⟩, i⟩, l⟩ := x v (.head _)
    generalize k (Value.ref a) = ns at i l
    cases exs : xs.toList with
    | nil =>
      rw [exs] at i
      cases i
      rw [← l] at hn
      cases hn
    | cons y r =>
      rw [exs] at i
      obtain ⟨p, t, hy⟩ := i.all y (.head _)
      have g : xs[0]? = some y := by
        rw [← Array.getElem?_toList, exs]
        rfl
      refine ⟨y :: fs, .cons ho hc hd g h1, by rw [List.length_cons, List.length_cons, h2], fun f hf => ?_⟩
      cases hf with
      | head => exact ⟨p, t, hy⟩
      | tail _ hf => exact h3 f hf
open TS in
theorem sortableG {n : Nat} (hn : 1 ≤ n) {a : Addr} {vs : List Value} {k : Value → List Int} (h0 : 0 < vs.length) (hv : ∀ v ∈ vs, TupInts s.heap v (k v) ∧ (k v).length = n) (ha : ∀ o, s.heap.get? a = some o → o.cls ≠ .type "tuple") :
    SrtO.SortableO prog w A s a vs fun v u => HT.lexLt (k v) (k u) := fun h' keep => by
  have hv2 : ∀ v ∈ vs, TupInts h' v (k v) ∧ (k v).length = n := fun v m => ⟨(hv v m).1.keeps fun b o e c => keep b o (fun z => ha o (z ▸ e) c) e, (hv v m).2⟩
  obtain ⟨fs, h1, h2, h3⟩ := headsG hn hv2
  refine ⟨PyProof.Rows.tuples' true, fun Q E q => ?_, cmpG (s := { s with heap := h' }) hv2⟩
  refine PySem.W.kat_kind (T := .type "int") h1 (by omega) (fun f hf => ?_) rfl ?_
  · obtain ⟨p, t, rfl⟩ := h3 f hf
    exact PySem.W.Looks.now
  · have c : (Value.type "int" != Value.type "tuple") = true := by decide +kernel
    rw [c]
    exact q
end
section
variable {X : Cx} {K : PySem.W.Frag}
/-- sorted(xs), xs tuples of n ints each -/
def rSortT (K : PySem.W.Frag) : List V → Hp → VK → Prop := fun vs H Q => ∃ (a : Addr) (ts : List Addr) (k : Addr → List Int) (n : Nat), vs = [.ref a] ∧ SqL K H a (ts.map V.ref) ∧ 1 ≤ n ∧ (∀ t ∈ ts, H t = some (.tup ((k t).map V.int)) ∧ (k t).length = n) ∧
  ∀ (ts' : List Addr) (p : Addr), ts'.Perm ts → ts'.Pairwise (fun x y => HT.lexLt (k y) (k x) = false) → H p = none → Q (.ref p) (upd H p (.lst (ts'.map V.ref)))
theorem call_sortT : CallR X (.builtin "sorted") (rSortT X.K) := fun pins st σ H vs us Q I r h => by
  obtain ⟨a, ts, k, n, rfl, hs, hn, hk, q⟩ := h
  obtain ⟨its, rv, hl, hz⟩ := I.list hs
  rw [Vals.ref1 r]
  have ei := nts_of rv
  have hv : ∀ v ∈ its, TS.TupInts st.heap v (k (adO v)) ∧ (k (adO v)).length = n := fun v m => by
    rw [ei] at m
    obtain ⟨t, ht, rfl⟩ := List.mem_map.mp m
    obtain ⟨e1, e2⟩ := hk t ht
    obtain ⟨_, its2, r2, o, ho, hc, m2, hd⟩ := I.hok _ _ e1
    exact ⟨⟨t, its2.toArray, rfl, ⟨o, ho, hc, m2, hd⟩, r2.ints⟩, e2⟩
  have len1 : its.length = ts.length := by rw [ei, List.length_map]
  have zz : ts.length ≤ sizeLine := by
    rw [List.length_map] at hz
    exact hz
  refine SrtO.sorted_ord (NtL.swo_lexL fun v => k (adO v)) hl.isList (by omega) (fun h2 h₁ a' ha' kk => ?_) fun out o1 o2 => ?_
  · refine sortableG (s := { st with heap := h₁ }) hn (by omega) (fun v m => ⟨(hv v m).1.keeps fun b o e _ => (kk b o e).2, (hv v m).2⟩) fun o e => ?_
    have e : h₁.get? a' = some o := e
    rw [ha'] at e
    cases e
    exact fun c => absurd (Value.type.inj c) (by decide)
  · obtain ⟨ep, at'⟩ := PyProof.Rows.sortedAll_at st.heap its out.toArray
    have pm : (out.map adO).Perm ts := by
      have z := o2.perm.map adO
      rw [ei, ad_map] at z
      exact z
    have eo : out = (out.map adO).map Value.ref := ref_map fun u m => by
      have m := o2.perm.mem_iff.mp m
      rw [ei] at m
      obtain ⟨t, _, e⟩ := List.mem_map.mp m
      exact ⟨t, e.symm⟩
    have vo : Vals ((out.map adO).map V.ref) out := by
      have z := of_nts (out.map adO)
      rw [← eo] at z
      exact z
    have z3 : ((out.map adO).map V.ref).length ≤ sizeLine := by
      rw [List.length_map, pm.length_eq]
      exact zz
    exact ⟨.ref _, upd H (st.heap.objs.size + 1) (.lst ((out.map adO).map V.ref)), I.laid (t' := st.toks) (fun _ _ => PyProof.Rows.sortedAll_old) (Nat.le_succ _) ⟨z3, out, ep, vo, at'⟩, rfl,
      q _ _ pm (List.pairwise_map.mpr (o1.imp fun z => z)) (I.hok.fresh (Nat.le_succ _))⟩
theorem RpA.tups {H : Hp} : ∀ {vs : List V} {ns : List (List Int)}, RpA H vs (ns.map encI) → ∃ ts : List Addr, vs = ts.map V.ref ∧ Paired (fun t (m : List Int) => H t = some (.tup (m.map V.int))) ts ns
  | [], [], _ => ⟨[], rfl, .nil⟩
  | v :: vs, m :: ns, .cons r rs => by
    obtain ⟨ts, h1, h2⟩ := RpA.tups (vs := vs) rs
    subst h1
    have r : Rp H v (.tuple (m.map PyData.int)) := r
    cases r with
    | tup e r =>
      have z := RpA.ints r
      subst z
      exact ⟨_ :: ts, rfl, .cons e h2⟩
  | [], _ :: _, r => nomatch r
  | _ :: _, [], r => nomatch r
/-- an address of the list, its ints -/
theorem pick_fn : ∀ {H : Hp} {ts : List Addr} {ns : List (List Int)}, Paired (fun t (m : List Int) => H t = some (.tup (m.map V.int))) ts ns → ∃ k : Addr → List Int, ns = ts.map k ∧ ∀ t ∈ ts, H t = some (.tup ((k t).map V.int))
  | H, [], _, .nil => ⟨fun _ => [], rfl, fun t h => nomatch h⟩
  | H, t :: ts, m :: ns, .cons e r => by
    obtain ⟨k, h1, h2⟩ := pick_fn r
    refine ⟨fun a => if a = t then m else k a, ?_, fun b hb => ?_⟩
    · rw [List.map_cons, if_pos rfl, h1]
      congr 1
      refine List.map_congr_left fun a ha => ?_
      by_cases c : a = t
      · subst c
        show k a = if a = a then m else k a
        rw [if_pos rfl]
        have inj : ∀ {p q : List Int}, p.map V.int = q.map V.int → p = q := fun {p q} z => List.map_inj_right (fun _ _ z => V.int.inj z) |>.mp z
        have z := (h2 a ha).symm.trans e
        injection z with z
        injection z with z
        exact inj z
      · show k a = if a = t then m else k a
        rw [if_neg c]
    · show H b = some (.tup ((if b = t then m else k b).map V.int))
      by_cases c : b = t
      · subst c
        rw [if_pos rfl]
        exact e
      · rw [if_neg c]
        cases hb with
        | head => exact absurd rfl c
        | tail _ hb => exact h2 b hb
theorem bi_sorted : BR K .sorted (rSortT K) := by
  intro w rs vs P Q ok o h hq
  unfold bi at h
  split at h <;> first | contradiction | skip
  rename_i r _
  obtain ⟨ns, n, e1, hn, hl, q⟩ := h
  cases o with
  | cons o os =>
    cases os
    obtain ⟨a, us, rfl, h1, h2⟩ := o.list ok e1
    obtain ⟨ts, rfl, h3⟩ := RpA.tups h2
    obtain ⟨k, rfl, h4⟩ := pick_fn h3
    refine ⟨a, ts, k, n, rfl, h1, hn, fun t ht => ⟨ok.fh _ _ (h4 t ht), hl _ (List.mem_map_of_mem ht)⟩, fun ts' p pm pw hp => ?_⟩
    have q := q (ts'.map k) (pm.map k) (List.pairwise_map.mpr (pw.imp fun z => by
      unfold lexLe
      rw [z]
      rfl))
    have hr : RpA w.f (ts'.map V.ref) ((ts'.map k).map encI) := by
      have go : ∀ l : List Addr, (∀ t ∈ l, t ∈ ts) → RpA w.f (l.map V.ref) ((l.map k).map encI) := by
        intro l
        induction l with
        | nil => exact fun _ => .nil
        | cons t l ih => exact fun z => .cons (Rp.tup (h4 t (z t (.head _))) (RpA.of_ints _)) (ih fun u hu => z u (.tail _ hu))
      exact go ts' fun t ht => pm.mem_iff.mp ht
    exact new_fr ok hr q hq p hp
end
end Ir

set_option Elab.async false
set_option linter.all false
set_option maxRecDepth 100000
set_option maxHeartbeats 1000000
/-! Ir12: the rules as they are used: g, the context, first; what is left to check is checked by the kernel. -/
namespace Ir
open PySem
open L2
open PySem.Spec

def visB (sc : Scope) (x : Str) : Bool := match sc.names.lookup x with
  | some .local => true
  | some .cell => true
  | some .free => true
  | _ => false
def locB (sc : Scope) (x : Str) : Bool := match sc.names.lookup x with
  | some .local => true
  | some .cell => true
  | _ => false
def lclB (sc : Scope) (x : Str) : Bool := match sc.names.lookup x with
  | some .local => true
  | _ => false
def gloB (sc : Scope) (x : Str) : Bool := match sc.names.lookup x with
  | some .globalImplicit => true
  | _ => false
/-- a name as the rules want it -/
def nmB (N : List Str) (sc : Scope) (i : Nat) (x : Str) : Bool := N[i]? == some x && visB sc x && !(x == ("__debug__" : Str)) && !(x == ("__classdict__" : Str))
def loB (N : List Str) (sc : Scope) (i : Nat) (x : Str) : Bool := N[i]? == some x && locB sc x
def llB (N : List Str) (sc : Scope) (i : Nat) (x : Str) : Bool := N[i]? == some x && lclB sc x
def glB (sc : Scope) (x : Str) : Bool := gloB sc x && !(x == ("__debug__" : Str)) && !(x == ("__name__" : Str))
theorem visB_ok {sc : Scope} {x : Str} (h : visB sc x = true) : Vis sc x := by
  unfold visB at h
  split at h <;> rename_i e
  · exact .inl e
  · exact .inr (.inl e)
  · exact .inr (.inr e)
  · cases h
theorem locB_ok {sc : Scope} {x : Str} (h : locB sc x = true) : Loc sc x := by
  unfold locB at h
  split at h <;> rename_i e
  · exact .inl e
  · exact .inr e
  · cases h
theorem lclB_ok {sc : Scope} {x : Str} (h : lclB sc x = true) : sc.names.lookup x = some .local := by
  unfold lclB at h
  split at h <;> rename_i e
  · exact e
  · cases h
theorem gloB_ok {sc : Scope} {x : Str} (h : gloB sc x = true) : sc.names.lookup x = some .globalImplicit := by
  unfold gloB at h
  split at h <;> rename_i e
  · exact e
  · cases h
theorem not_t {b : Bool} (h : (!b) = true) : b = false := by
  cases b
  · rfl
  · cases h
section
variable {X : Cx} {T : Tb} {k : Nat} {Γ : List Spc} {sc : Scope} {pos p p1 p2 p3 p4 : Pos} {i j : Nat} {x y : Str}
theorem Gd.nm (g : Gd T k Γ sc X) (h : nmB T.N sc i x = true) : X.N[i]? = some x ∧ Vis X.env.scope x ∧ (x == ("__debug__" : Str)) = false ∧ (x == ("__classdict__" : Str)) = false := by
  unfold nmB at h
  simp only [Bool.and_eq_true] at h
  obtain ⟨⟨⟨h1, h2⟩, h3⟩, h4⟩ := h
  exact ⟨by rw [g.N]; exact eq_of_beq h1, by rw [g.scp]; exact visB_ok h2, not_t h3, not_t h4⟩
theorem Gd.lo (g : Gd T k Γ sc X) (h : loB T.N sc i x = true) : X.N[i]? = some x ∧ Loc X.env.scope x := by
  unfold loB at h
  simp only [Bool.and_eq_true] at h
  exact ⟨by rw [g.N]; exact eq_of_beq h.1, by rw [g.scp]; exact locB_ok h.2⟩
theorem Gd.ll (g : Gd T k Γ sc X) (h : llB T.N sc i x = true) : X.N[i]? = some x ∧ X.env.scope.names.lookup x = some .local := by
  unfold llB at h
  simp only [Bool.and_eq_true] at h
  exact ⟨by rw [g.N]; exact eq_of_beq h.1, by rw [g.scp]; exact lclB_ok h.2⟩
theorem Gd.gl (g : Gd T k Γ sc X) (h : glB sc x = true) : Gl X x ∧ (x == ("__debug__" : Str)) = false ∧ x ≠ "__name__" := by
  unfold glB at h
  simp only [Bool.and_eq_true] at h
  refine ⟨?_, not_t h.1.2, fun e => ?_⟩
  · show X.env.scope.names.lookup x = _
    rw [g.scp]
    exact gloB_ok h.1.1
  · have z := not_t h.2
    rw [e] at z
    exact absurd z (by decide)
theorem Gd.bi (g : Gd T k Γ sc X) (h : glB sc x = true) (hb : bnames.elem x = true) : X.mg x = none := g.bn x (List.mem_of_elem_eq_true hb)
theorem Gd.hu (g : Gd T k Γ sc X) : X.A.units + 65 < cLine := by
  have := g.room.un
  omega

/-! ### expressions -/
theorem Gd.var (g : Gd T k Γ sc X) (h : nmB T.N sc i x = true := by decide +kernel) : PE X (.Name x pos) (rd X.K (E Γ (.var i))) :=
  e_var (g.nm h).1 (g.nm h).2.1 (g.nm h).2.2.1 (g.nm h).2.2.2
theorem Gd.int (_ : Gd T k Γ sc X) {n : Int} : PE X (.Constant (.int n) j pos) (rd X.K (E Γ (.cst (.int n)))) := e_cst pe_int fun _ => Rp.int _
theorem Gd.bl (_ : Gd T k Γ sc X) {n : Bool} : PE X (.Constant (.bool n) j pos) (rd X.K (E Γ (.cst (.bl n)))) := e_cst pe_bl fun _ => Rp.bl _
theorem Gd.str (_ : Gd T k Γ sc X) {n : Str} : PE X (.Constant (.str n) j pos) (rd X.K (E Γ (.cst (.str n)))) := e_cst pe_str fun _ => Rp.str _
theorem Gd.non (_ : Gd T k Γ sc X) : PE X (.Constant .none j pos) (rd X.K (E Γ (.cst .non))) := e_cst pe_non fun _ => Rp.non
section
variable {a b : Expr} {ea eb : Ex}
theorem Gd.add (_ : Gd T k Γ sc X) (ha : PE X a (rd X.K (E Γ ea))) (hb : PE X b (rd X.K (E Γ eb))) : PE X (.BinOp a .Add b pos) (rd X.K (E Γ (.bin .add ea eb))) := e_bin op_addA b_add ha hb
theorem Gd.sub (_ : Gd T k Γ sc X) (ha : PE X a (rd X.K (E Γ ea))) (hb : PE X b (rd X.K (E Γ eb))) : PE X (.BinOp a .Sub b pos) (rd X.K (E Γ (.bin .sub ea eb))) := e_bin op_sub b_sub ha hb
theorem Gd.mul (_ : Gd T k Γ sc X) (ha : PE X a (rd X.K (E Γ ea))) (hb : PE X b (rd X.K (E Γ eb))) : PE X (.BinOp a .Mult b pos) (rd X.K (E Γ (.bin .mul ea eb))) := e_bin op_mulA b_mul ha hb
theorem Gd.fdiv (_ : Gd T k Γ sc X) (ha : PE X a (rd X.K (E Γ ea))) (hb : PE X b (rd X.K (E Γ eb))) : PE X (.BinOp a .FloorDiv b pos) (rd X.K (E Γ (.bin .fdiv ea eb))) := e_bin op_fdivW b_fdiv ha hb
theorem Gd.mod (_ : Gd T k Γ sc X) (ha : PE X a (rd X.K (E Γ ea))) (hb : PE X b (rd X.K (E Γ eb))) : PE X (.BinOp a .Mod b pos) (rd X.K (E Γ (.bin .mod ea eb))) := e_bin op_mod b_mod ha hb
theorem Gd.pow (_ : Gd T k Γ sc X) (ha : PE X a (rd X.K (E Γ ea))) (hb : PE X b (rd X.K (E Γ eb))) : PE X (.BinOp a .Pow b pos) (rd X.K (E Γ (.bin .pow ea eb))) := e_bin op_pow b_pow ha hb
theorem Gd.shl (_ : Gd T k Γ sc X) (ha : PE X a (rd X.K (E Γ ea))) (hb : PE X b (rd X.K (E Γ eb))) : PE X (.BinOp a .LShift b pos) (rd X.K (E Γ (.bin .shl ea eb))) := e_bin op_shl b_shl ha hb
theorem Gd.shr (_ : Gd T k Γ sc X) (ha : PE X a (rd X.K (E Γ ea))) (hb : PE X b (rd X.K (E Γ eb))) : PE X (.BinOp a .RShift b pos) (rd X.K (E Γ (.bin .shr ea eb))) := e_bin op_shr b_shr ha hb
/-! comparisons: the value (1), the test (2) -/
abbrev CmpOk (X : Cx) (Γ : List Spc) (c : Expr) (e : Ex) : Prop := PE X c (rd X.K (E Γ e)) ∧ PT X c (rt X.K Γ e)
theorem Gd.eq (g : Gd T k Γ sc X) (ha : PE X a (rd X.K (E Γ ea))) (hb : PE X b (rd X.K (E Γ eb))) (hh : hd b = true := by rfl) : CmpOk X Γ (.Compare a [.Eq] [b] pos) (.cmp .eq ea eb) :=
  e_cmp0 (op_eq.or (op_eqD (by have := g.hu; omega))) c_eq (mark_hd hh) (fun _ _ _ _ z => z) ha hb
theorem Gd.ne (g : Gd T k Γ sc X) (ha : PE X a (rd X.K (E Γ ea))) (hb : PE X b (rd X.K (E Γ eb))) (hh : hd b = true := by rfl) : CmpOk X Γ (.Compare a [.NotEq] [b] pos) (.cmp .ne ea eb) :=
  e_cmp0 (op_ne.or (op_neD (by have := g.hu; omega))) c_ne (mark_hd hh) (fun _ _ _ _ z => z) ha hb
theorem Gd.lt (g : Gd T k Γ sc X) (ha : PE X a (rd X.K (E Γ ea))) (hb : PE X b (rd X.K (E Γ eb))) (hh : hd b = true := by rfl) : CmpOk X Γ (.Compare a [.Lt] [b] pos) (.cmp .lt ea eb) :=
  e_cmp0 op_lt c_lt (mark_hd hh) (fun _ _ _ _ z => z) ha hb
theorem Gd.le (g : Gd T k Γ sc X) (ha : PE X a (rd X.K (E Γ ea))) (hb : PE X b (rd X.K (E Γ eb))) (hh : hd b = true := by rfl) : CmpOk X Γ (.Compare a [.LtE] [b] pos) (.cmp .le ea eb) :=
  e_cmp0 op_le c_le (mark_hd hh) (fun _ _ _ _ z => z) ha hb
theorem Gd.gt (g : Gd T k Γ sc X) (ha : PE X a (rd X.K (E Γ ea))) (hb : PE X b (rd X.K (E Γ eb))) (hh : hd b = true := by rfl) : CmpOk X Γ (.Compare a [.Gt] [b] pos) (.cmp .gt ea eb) :=
  e_cmp0 op_gt c_gt (mark_hd hh) (fun _ _ _ _ z => z) ha hb
theorem Gd.ge (g : Gd T k Γ sc X) (ha : PE X a (rd X.K (E Γ ea))) (hb : PE X b (rd X.K (E Γ eb))) (hh : hd b = true := by rfl) : CmpOk X Γ (.Compare a [.GtE] [b] pos) (.cmp .ge ea eb) :=
  e_cmp0 op_ge c_ge (mark_hd hh) (fun _ _ _ _ z => z) ha hb
/-- in, not in: what stands right is no name -/
theorem Gd.isin (g : Gd T k Γ sc X) (ha : PE X a (rd X.K (E Γ ea))) (hb : PE X b (rd X.K (E Γ eb))) (nv : ∀ t kvs ρ, odAt eb ρ ≠ some (t, kvs) := by intro _ _ _ z; exact nomatch z) (hh : hd b = true := by rfl) : CmpOk X Γ (.Compare a [.In] [b] pos) (.cmp .isin ea eb) := by
  have go : ∀ σ H (Q : VK), rd X.K (E Γ (.cmp .isin ea eb)) σ H Q → tOp (rInD X.K) (rd X.K (E Γ ea)) (rd X.K (E Γ eb)) σ H Q := fun σ H Q h => by
    rcases cmp_way h with h | ⟨j, ej, h⟩
    · exact tOp_rd (monE ea) (monE _) c_in h
    · obtain ⟨B, w, ρ, rfl, s, q⟩ := h
      refine rd_go s (E.mono ea (fun x q => ?_) q)
      obtain ⟨t, kvs, c, q⟩ := q
      exact absurd (show odAt eb ρ = some (t, kvs) by rw [ej]; simp only [odAt, c]) (nv t kvs ρ)
  exact ⟨pe_imp (pe_cmpR (op_inD g.hu) ha hb (mark_hd hh)) go, pt_imp (pt_cmpR (op_inD g.hu) ha hb (mark_hd hh)) fun σ H Q h => go σ H _ (test_of (monE _) h)⟩
theorem Gd.inv (g : Gd T k Γ sc X) (ha : PE X a (rd X.K (E Γ ea))) (h : nmB T.N sc i x = true := by decide +kernel) : CmpOk X Γ (.Compare a [.In] [.Name x p] pos) (.cmp .isin ea (.var i)) :=
  e_cmp_in false g.hu (g.nm h).1 (g.nm h).2.1 (g.nm h).2.2.1 (g.nm h).2.2.2 ha (g.var h)
theorem Gd.ninv (g : Gd T k Γ sc X) (ha : PE X a (rd X.K (E Γ ea))) (h : nmB T.N sc i x = true := by decide +kernel) : CmpOk X Γ (.Compare a [.NotIn] [.Name x p] pos) (.cmp .notin ea (.var i)) :=
  e_cmp_in true g.hu (g.nm h).1 (g.nm h).2.1 (g.nm h).2.2.1 (g.nm h).2.2.2 ha (g.var h)
theorem pt_isn {a : Expr} {e : Ex} (h : PE X a (rd X.K (E Γ e))) (he : ∀ whole, isTrue a X.env whole = (do let v ← whole; standAt a.pos; holding [v] (truthy v))) : PT X a (rt X.K Γ (.tru e)) := t_tru h he
theorem Gd.ix (_ : Gd T k Γ sc X) (ha : PE X a (rd X.K (E Γ ea))) (hb : PE X b (rd X.K (E Γ eb))) (nv : ∀ i, ea ≠ .var i := by exact fun _ z => nomatch z) (hh : hd b = true := by rfl) : PE X (.Subscript a b pos) (rd X.K (E Γ (.ix ea eb))) :=
  e_ix nv (ix_hd hh) ha hb
theorem Gd.ixv (g : Gd T k Γ sc X) (hb : PE X b (rd X.K (E Γ eb))) (h : nmB T.N sc i x = true := by decide +kernel) (hh : hd b = true := by rfl) : PE X (.Subscript (.Name x p) b pos) (rd X.K (E Γ (.ix (.var i) eb))) :=
  e_ixv g.hu (g.nm h).1 (g.nm h).2.1 (g.nm h).2.2.1 (g.nm h).2.2.2 (ix_hd hh) hb
end
theorem Gd.anil (_ : Gd T k Γ sc X) : PA X [] (rdA X.K (Es Γ .nil)) := a_nil
theorem Gd.ac (_ : Gd T k Γ sc X) {e : Expr} {es : List Expr} {ea : Ex} {eas : Exs} (ha : PE X e (rd X.K (E Γ ea))) (hr : PA X es (rdA X.K (Es Γ eas))) (hh : hd e = true := by rfl) : PA X (e :: es) (rdA X.K (Es Γ (.cons ea eas))) := a_cons hh ha hr
/-! ### calls -/
section
variable {e a b : Expr} {es : List Expr} {as : Exs} {ea eb : Ex} {S : Spc}
theorem Gd.call (g : Gd T k Γ sc X) (f : Nat) (S : Spc) (hS : Γ[f]? = some S) (ha : PA X (e :: es) (rdA X.K (Es Γ as))) (hx : T.fns[f]? = some x := by decide +kernel) (h : glB sc x = true := by decide +kernel) (h1 : hd e = true := by rfl) (h2 : es.all hd = true := by rfl) :
    PE X (.Call (.Name x p) (e :: es) [] pos) (rd X.K (E Γ (.call f as))) := by
  obtain ⟨y, hy, F⟩ := g.fn f S hS
  rw [hx] at hy
  cases hy
  exact e_call hS F g.grd g.room (g.gl h).1 (g.gl h).2.1 h1 h2 ha
theorem Gd.callN (g : Gd T k Γ sc X) (f : Nat) {m : Nat} (L : Γ.length = m) (ha : PA X (e :: es) (rdA X.K (Es Γ as))) (hf : f < m := by decide) (hx : T.fns[f]? = some x := by decide +kernel) (h : glB sc x = true := by decide +kernel) (h1 : hd e = true := by rfl) (h2 : es.all hd = true := by rfl) :
    PE X (.Call (.Name x p) (e :: es) [] pos) (rd X.K (E Γ (.call f as))) := g.call f _ (List.getElem?_eq_getElem (by rw [L]; exact hf)) ha hx h h1 h2
theorem Gd.len (g : Gd T k Γ sc X) (ha : PA X (e :: es) (rdA X.K (Es Γ as))) (h : glB sc "len" = true := by decide +kernel) (h1 : hd e = true := by rfl) (h2 : es.all hd = true := by rfl) : PE X (.Call (.Name "len" p) (e :: es) [] pos) (rd X.K (E Γ (.blt .len as))) :=
  e_biB call_len_seq bi_len (g.gl h).1 (g.bi h (by decide +kernel)) (by decide +kernel) (by decide) (by decide) h1 h2 ha
theorem Gd.bint (g : Gd T k Γ sc X) (ha : PA X (e :: es) (rdA X.K (Es Γ as))) (h : glB sc "int" = true := by decide +kernel) (h1 : hd e = true := by rfl) (h2 : es.all hd = true := by rfl) : PE X (.Call (.Name "int" p) (e :: es) [] pos) (rd X.K (E Γ (.blt .int as))) :=
  e_biT call_int1 bi_int (g.gl h).1 (g.bi h (by decide +kernel)) (by decide +kernel) (by decide) (by decide) h1 h2 ha
theorem Gd.abs (g : Gd T k Γ sc X) (ha : PA X (e :: es) (rdA X.K (Es Γ as))) (h : glB sc "abs" = true := by decide +kernel) (h1 : hd e = true := by rfl) (h2 : es.all hd = true := by rfl) : PE X (.Call (.Name "abs" p) (e :: es) [] pos) (rd X.K (E Γ (.blt .abs as))) :=
  e_biB call_abs bi_abs (g.gl h).1 (g.bi h (by decide +kernel)) (by decide +kernel) (by decide) (by decide) h1 h2 ha
theorem Gd.btup (g : Gd T k Γ sc X) (ha : PA X (e :: es) (rdA X.K (Es Γ as))) (h : glB sc "tuple" = true := by decide +kernel) (h1 : hd e = true := by rfl) (h2 : es.all hd = true := by rfl) : PE X (.Call (.Name "tuple" p) (e :: es) [] pos) (rd X.K (E Γ (.blt .tuple as))) :=
  e_biT call_tuple_of bi_tuple (g.gl h).1 (g.bi h (by decide +kernel)) (by decide +kernel) (by decide) (by decide) h1 h2 ha
theorem Gd.blst (g : Gd T k Γ sc X) (ha : PA X (e :: es) (rdA X.K (Es Γ as))) (h : glB sc "list" = true := by decide +kernel) (h1 : hd e = true := by rfl) (h2 : es.all hd = true := by rfl) : PE X (.Call (.Name "list" p) (e :: es) [] pos) (rd X.K (E Γ (.blt .list as))) :=
  e_biT call_list_of bi_list (g.gl h).1 (g.bi h (by decide +kernel)) (by decide +kernel) (by decide) (by decide) h1 h2 ha
theorem Gd.sorted (g : Gd T k Γ sc X) (ha : PA X (e :: es) (rdA X.K (Es Γ as))) (h : glB sc "sorted" = true := by decide +kernel) (h1 : hd e = true := by rfl) (h2 : es.all hd = true := by rfl) : PE X (.Call (.Name "sorted" p) (e :: es) [] pos) (rd X.K (E Γ (.blt .sorted as))) :=
  e_biB call_sortT bi_sorted (g.gl h).1 (g.bi h (by decide +kernel)) (by decide +kernel) (by decide) (by decide) h1 h2 ha
theorem Gd.sum (g : Gd T k Γ sc X) (ha : PA X (e :: es) (rdA X.K (Es Γ as))) (h : glB sc "sum" = true := by decide +kernel) (h1 : hd e = true := by rfl) (h2 : es.all hd = true := by rfl) : PE X (.Call (.Name "sum" p) (e :: es) [] pos) (rd X.K (E Γ (.blt .sum as))) :=
  e_biB (cr_sum g.calm) bi_sum (g.gl h).1 (g.bi h (by decide +kernel)) (by decide +kernel) (by decide) (by decide) h1 h2 ha
theorem Gd.min2 (g : Gd T k Γ sc X) (ha : PA X (e :: es) (rdA X.K (Es Γ as))) (h : glB sc "min" = true := by decide +kernel) (h1 : hd e = true := by rfl) (h2 : es.all hd = true := by rfl) : PE X (.Call (.Name "min" p) (e :: es) [] pos) (rd X.K (E Γ (.blt .min2 as))) :=
  e_biB (call_min2 g.calm) bi_min2 (g.gl h).1 (g.bi h (by decide +kernel)) (by decide +kernel) (by decide) (by decide) h1 h2 ha
theorem Gd.max2 (g : Gd T k Γ sc X) (ha : PA X (e :: es) (rdA X.K (Es Γ as))) (h : glB sc "max" = true := by decide +kernel) (h1 : hd e = true := by rfl) (h2 : es.all hd = true := by rfl) : PE X (.Call (.Name "max" p) (e :: es) [] pos) (rd X.K (E Γ (.blt .max2 as))) :=
  e_biB (call_max2 g.calm) bi_max2 (g.gl h).1 (g.bi h (by decide +kernel)) (by decide +kernel) (by decide) (by decide) h1 h2 ha
theorem Gd.max1 (g : Gd T k Γ sc X) (ha : PA X (e :: es) (rdA X.K (Es Γ as))) (h : glB sc "max" = true := by decide +kernel) (h1 : hd e = true := by rfl) (h2 : es.all hd = true := by rfl) : PE X (.Call (.Name "max" p) (e :: es) [] pos) (rd X.K (E Γ (.blt .max1 as))) :=
  e_biB (cr_max g.calm) bi_max1 (g.gl h).1 (g.bi h (by decide +kernel)) (by decide +kernel) (by decide) (by decide) h1 h2 ha
theorem Gd.all (g : Gd T k Γ sc X) (ha : PA X (e :: es) (rdA X.K (Es Γ as))) (h : glB sc "all" = true := by decide +kernel) (h1 : hd e = true := by rfl) (h2 : es.all hd = true := by rfl) : PE X (.Call (.Name "all" p) (e :: es) [] pos) (rd X.K (E Γ (.blt .all as))) :=
  e_biB (cr_all g.calm) bi_all (g.gl h).1 (g.bi h (by decide +kernel)) (by decide +kernel) (by decide) (by decide) h1 h2 ha
theorem Gd.repr (g : Gd T k Γ sc X) (ha : PA X (e :: es) (rdA X.K (Es Γ as))) (h : glB sc "repr" = true := by decide +kernel) (h1 : hd e = true := by rfl) (h2 : es.all hd = true := by rfl) : PE X (.Call (.Name "repr" p) (e :: es) [] pos) (rd X.K (E Γ (.blt .repr as))) :=
  e_biB (call_repr g.grd (by have := g.hu; omega)) bi_repr (g.gl h).1 (g.bi h (by decide +kernel)) (by decide +kernel) (by decide) (by decide) h1 h2 ha
theorem Gd.trng (g : Gd T k Γ sc X) (ha : PE X a (rd X.K (E Γ ea))) (h : glB sc "tuple" = true := by decide +kernel) (h' : glB sc "range" = true := by decide +kernel) (h1 : hd a = true := by rfl) :
    PE X (.Call (.Name "tuple" p1) [.Call (.Name "range" p2) [a] [] p3] [] pos) (rd X.K (E Γ (.trng ea))) :=
  e_trng g.calm (g.gl h).1 (g.bi h (by decide +kernel)) (g.gl h').1 (g.bi h' (by decide +kernel)) h1 ha
def tyS (t : Ty) : Str := Str.ofString (tyN t)
theorem Gd.isi1 (g : Gd T k Γ sc X) (t : Ty) (ha : PE X a (rd X.K (E Γ ea))) (h : glB sc "isinstance" = true := by decide +kernel) (h' : glB sc x = true := by decide +kernel) (hb : bnames.elem x = true := by decide +kernel) (hv : bootBuiltins x = some (.type (tyN t)) := by decide +kernel)
    (h1 : hd a = true := by rfl) : PE X (.Call (.Name "isinstance" p1) [a, .Name x p2] [] pos) (rd X.K (E Γ (.isi ea [t]))) :=
  e_isi1 (g.gl h).1 (g.bi h (by decide +kernel)) (g.gl h').1 (g.bi h' hb) hv (g.gl h').2.2 (g.gl h').2.1 h1 ha
theorem Gd.isi2 (g : Gd T k Γ sc X) (t u : Ty) (ha : PE X a (rd X.K (E Γ ea))) (h : glB sc "isinstance" = true := by decide +kernel) (h' : glB sc x = true := by decide +kernel) (hb : bnames.elem x = true := by decide +kernel) (hv : bootBuiltins x = some (.type (tyN t)) := by decide +kernel)
    (h2 : glB sc y = true := by decide +kernel) (hb2 : bnames.elem y = true := by decide +kernel) (hv2 : bootBuiltins y = some (.type (tyN u)) := by decide +kernel)
    (h1 : hd a = true := by rfl) : PE X (.Call (.Name "isinstance" p1) [a, .Tuple [.Name x p2, .Name y p3] j p4] [] pos) (rd X.K (E Γ (.isi ea [t, u]))) :=
  e_isi2 (g.gl h).1 (g.bi h (by decide +kernel)) (g.gl h').1 (g.bi h' hb) hv (g.gl h').2.2 (g.gl h').2.1 (g.gl h2).1 (g.bi h2 hb2) hv2 (g.gl h2).2.2 (g.gl h2).2.1 h1 ha
end
/-! ### what is walked -/
section
variable {tg e a b : Expr} {ea eb : Ex}
theorem Gd.iof (_ : Gd T k Γ sc X) (ha : PE X e (rd X.K (E Γ ea))) : PI X tg e (rdI X.K (srcW Γ (.of ea))) := i_of ha
theorem Gd.irng1 (g : Gd T k Γ sc X) (ha : PE X a (rd X.K (E Γ ea))) (h : glB sc "range" = true := by decide +kernel) (h1 : hd a = true := by rfl) : PI X tg (.Call (.Name "range" p1) [a] [] pos) (rdI X.K (srcW Γ (.rng (.cons ea .nil)))) :=
  i_rng1 (g.gl h).1 (g.bi h (by decide +kernel)) h1 (a_cons h1 ha a_nil)
theorem Gd.irng2 (g : Gd T k Γ sc X) (ha : PE X a (rd X.K (E Γ ea))) (hb : PE X b (rd X.K (E Γ eb))) (h : glB sc "range" = true := by decide +kernel) (h1 : hd a = true := by rfl) (h2 : hd b = true := by rfl) :
    PI X tg (.Call (.Name "range" p1) [a, b] [] pos) (rdI X.K (srcW Γ (.rng (.cons ea (.cons eb .nil))))) :=
  i_rng2 (g.gl h).1 (g.bi h (by decide +kernel)) h1 h2 (a_cons h1 ha (a_cons h2 hb a_nil))
end
/-! ### comprehensions -/
theorem Gd.blk (g : Gd T k Γ sc X) (scope : Scope) (s : Shared) (H : Hp) (C : Addr) (cl : List (Str × Addr)) (fp : List Addr) (hk : scope.kind = .function) : Gd T k Γ (relS scope sc) (X.blk s H scope (compEnvC scope cl C X.env) fp) := by
  refine ⟨g.N, g.nd, ?_, hk, g.calm, g.room, g.grd, PassesOwn.never, g.bn, g.fn⟩
  show relS scope X.env.scope = relS scope sc
  rw [g.scp]
def blkB (N : List Str) (sc scope : Scope) (own : List (Str × Nat)) : Bool :=
  decide (scope.kind = .function) && (scope.names.all fun y => scope.names.lookup y.1 == some y.2) && (own.all fun p => N[p.2]? == some p.1) && (scope.names.all fun y => !(y.2 == .free) || (sc.names.lookup y.1 == some .cell || sc.names.lookup y.1 == some .free)) &&
  (scope.names.all fun y => !(y.2 == .local || y.2 == .cell) || ((own.map (·.1)).elem y.1 || !(N.elem y.1)))
theorem blkB_ok {N : List Str} {sc scope : Scope} {own : List (Str × Nat)} (h : blkB N sc scope own = true) : BlkOk N sc scope own := by
  unfold blkB at h
  simp only [Bool.and_eq_true, List.all_eq_true] at h
  obtain ⟨⟨⟨⟨h1, h2⟩, h3⟩, h4⟩, h5⟩ := h
  refine ⟨of_decide_eq_true h1, fun y m => eq_of_beq (h2 y m), fun p m => eq_of_beq (h3 p m), fun y m e => ?_, fun y m e => ?_⟩
  · have z := h4 y m
    rw [e] at z
    simp only [beq_self_eq_true, Bool.not_true, Bool.false_or, Bool.or_eq_true] at z
    rcases z with z | z
    · exact .inl (eq_of_beq z)
    · exact .inr (eq_of_beq z)
  · have z := h5 y m
    have c : (y.2 == NameKind.local || y.2 == NameKind.cell) = true := by
      rcases e with e | e <;> rw [e] <;> rfl
    rw [c] at z
    simp only [Bool.not_true, Bool.false_or, Bool.or_eq_true] at z
    rcases z with z | z
    · exact .inl (List.mem_of_elem_eq_true z)
    · exact .inr fun m => by
        rw [List.elem_eq_true_of_mem m] at z
        cases z
/-- for x in .. of a comprehension: its slot -/
def tgB (N : List Str) (sc scope : Scope) (j : Nat) (x : Str) : Bool := blkB N sc scope [(x, j)] && llB N (relS scope sc) j x
theorem Gd.yes (_ : Gd T k Γ sc X) : PTs X [] (rdT X.K fun ρ P => cnd Γ .nil ρ P) := ⟨fun pins s σ H Q I h => pts_nil.run pins s σ H Q I (by
  obtain ⟨B, w, ρ, rfl, s, q⟩ := h
  have q : ∀ w', Ext w w' → Q true w'.h := q
  exact q w (Ext.refl s.ok))⟩
theorem Gd.one (_ : Gd T k Γ sc X) {c : Expr} {ec : Ex} (h : PT X c (rt X.K Γ ec)) : PTs X [c] (rdT X.K fun ρ P => cnd Γ (.cons ec .nil) ρ P) := pts_one h
section
variable {elt iter kx vx : Expr} {ifs : List Expr} {scope : Scope} {s : Sr} {c : Exs} {e ek ev : Ex}
theorem Gd.lc (g : Gd T k Γ sc X) (hi : PI X (.Name x p1) iter (rdI X.K (srcW Γ s))) (ht : ∀ {Y : Cx}, Gd T k Γ (relS scope sc) Y → PTs Y ifs (rdT Y.K fun ρ P => cnd Γ c ρ P)) (he : ∀ {Y : Cx}, Gd T k Γ (relS scope sc) Y → PE Y elt (rd Y.K (E Γ e)))
    (h : tgB T.N sc scope j x = true := by decide +kernel) (hh : hd iter = true := by rfl) : PE X (.ListComp elt [⟨.Name x p1, iter, ifs, 0⟩] scope pos) (rd X.K (E Γ (.lc j s c e))) := by
  unfold tgB at h
  rw [Bool.and_eq_true] at h
  have bo := blkB_ok h.1
  refine pe_imp (pe_lc (own := [(x, j)]) g.calm g.nd hi (by rw [g.N, g.scp]; exact bo) (fun s' H C cl fp => ?_) (fun s' H C cl fp => ht (g.blk scope s' H C cl fp bo.kind)) (fun s' H C cl fp => he (g.blk scope s' H C cl fp bo.kind)) (set_hd hh)) fun σ H Q q => lc_imp (fun _ _ _ z => z) q
  have gb := g.blk scope s' H C cl fp bo.kind
  exact pg_name gb.nd (gb.ll h.2).1 (.inl (gb.ll h.2).2) (.inr (gb.ll h.2).2)
end
end
end Ir

set_option Elab.async false
set_option linter.all false
set_option maxRecDepth 100000
set_option maxHeartbeats 1000000
/-! Ir13: statements as they are used. -/
namespace Ir
open PySem
open L2
open PySem.Spec

section
variable {X : Cx} {T : Tb} {k : Nat} {Γ : List Spc} {sc : Scope} {pos p p1 p2 p3 p4 p5 p6 : Pos} {i j : Nat} {x y : Str}
theorem Gd.nil (_ : Gd T k Γ sc X) : PSs X [] (rdS X.K (W Γ .nil)) := ss_nil
theorem Gd.st (_ : Gd T k Γ sc X) {st : Stmt} {rest : List Stmt} {s : S} {ss : Ss} (h1 : PS X st (rdS X.K (W1 Γ s))) (h2 : PSs X rest (rdS X.K (W Γ ss))) : PSs X (st :: rest) (rdS X.K (W Γ (.cons s ss))) := ss_cons h1 h2
theorem Gd.frz (_ : Gd T k Γ sc X) {rest : List Stmt} {ss : Ss} (h2 : PSs X rest (rdS X.K (W Γ ss))) : PSs X rest (rdS X.K (W Γ (.cons (.frz i) ss))) := ss_frz h2
section
variable {e a : Expr} {ea ia : Ex}
theorem Gd.asg (g : Gd T k Γ sc X) (fn : X.fn = fun _ => true) (he : PE X e (rd X.K (E Γ ea))) (h : loB T.N sc i x = true := by decide +kernel) (hs : swapsWith e (some (.Name x p1)) pos.line X.env = pure false := by rfl) : PS X (.Assign [.Name x p1] e pos) (rdS X.K (W1 Γ (.asg i ea))) :=
  s_asg g.nd (g.lo h).1 (g.lo h).2 (.inl (by rw [fn])) hs he
theorem Gd.aug (g : Gd T k Γ sc X) (fn : X.fn = fun _ => true) (he : PE X e (rd X.K (E Γ ea))) (h : loB T.N sc i x = true := by decide +kernel) : PS X (.AugAssign (.Name x p1) .Add e pos) (rdS X.K (W1 Γ (.aug i ea))) :=
  s_aug g.nd (g.lo h).1 (g.lo h).2 (.inl (by rw [fn])) he
theorem Gd.app (g : Gd T k Γ sc X) (he : PE X e (rd X.K (E Γ ea))) (h : nmB T.N sc i x = true := by decide +kernel) (h1 : hd e = true := by rfl) (h2 : (p2.endLine == p3.line) = true := by rfl) : PS X (.Expr (.Call (.Attribute (.Name x p1) "append" p2) [e] [] p3) pos) (rdS X.K (W1 Γ (.app i ea))) :=
  s_app (g.nm h).1 (g.nm h).2.1 (g.nm h).2.2.1 (g.nm h).2.2.2 h1 h2 he
theorem Gd.appPop (g : Gd T k Γ sc X) (he : PE X e (rd X.K (E Γ ea))) (h : nmB T.N sc i x = true := by decide +kernel) (h' : nmB T.N sc j y = true := by decide +kernel) (h1 : hd e = true := by rfl) (h2 : (p2.endLine == p3.line) = true := by rfl) (h3 : (p5.endLine == p6.line) = true := by rfl) :
    PS X (.Expr (.Call (.Attribute (.Name x p1) "append" p2) [.Call (.Attribute (.Name y p4) "pop" p5) [e] [] p6] [] p3) pos) (rdS X.K (W1 Γ (.appPop i j ea))) :=
  s_appPop (g.nm h).1 (g.nm h).2.1 (g.nm h).2.2.1 (g.nm h).2.2.2 (g.nm h').1 (g.nm h').2.1 (g.nm h').2.2.1 (g.nm h').2.2.2 h1 h2 h3 he
theorem Gd.setx (g : Gd T k Γ sc X) (ha : PE X a (rd X.K (E Γ ia))) (he : PE X e (rd X.K (E Γ ea))) (h : nmB T.N sc i x = true := by decide +kernel)
    (hs : swapsWithSole [.Subscript (.Name x p1) a p2] e pos.line X.env = pure false := by rfl) (hw : swappedStores [.Subscript (.Name x p1) a p2] e X.env = pure none := by rfl) (hs2 : swapsWith e (some (.Subscript (.Name x p1) a p2)) pos.line X.env = pure false := by rfl)
    (hasg : ∀ v, assign (.Subscript (.Name x p1) a p2) X.env v = (do
      let ov ← holding [v] (eval (.Name x p1) X.env)
      let iv ← holding [v, ov] (eval a X.env)
      standAt p2
      holding [v, ov, iv] (setItem ov iv v)
      release [v, ov, iv] []) := by intro _; rfl) : PS X (.Assign [.Subscript (.Name x p1) a p2] e pos) (rdS X.K (W1 Γ (.setx i ia ea))) :=
  s_setx g.hu (g.nm h).1 (g.nm h).2.1 (g.nm h).2.2.1 (g.nm h).2.2.2 hs hw hs2 hasg ha he
theorem Gd.retv (g : Gd T k Γ sc X) (h : nmB T.N sc i x = true := by decide +kernel) : PS X (.Return (some (.Name x p1)) pos) (rdS X.K (W1 Γ (.ret (.var i)))) := s_retv (g.nm h).1 (g.nm h).2.1 (g.nm h).2.2.1 (g.nm h).2.2.2
theorem Gd.ret (_ : Gd T k Γ sc X) (he : PE X e (rd X.K (E Γ ea))) (nv : ∀ i, ea ≠ .var i := by exact fun _ z => nomatch z) : PS X (.Return (some e) pos) (rdS X.K (W1 Γ (.ret ea))) := s_ret nv he
theorem Gd.retN (_ : Gd T k Γ sc X) : PS X (.Return none pos) (rdS X.K (W1 Γ .retN)) := s_retN
theorem Gd.brk (_ : Gd T k Γ sc X) : PS X (.Break pos) (rdS X.K (W1 Γ .brk)) := s_brk
theorem Gd.cnt (_ : Gd T k Γ sc X) : PS X (.Continue pos) (rdS X.K (W1 Γ .cnt)) := s_cnt
theorem Gd.pas (_ : Gd T k Γ sc X) : PS X (.Pass pos) (rdS X.K (W1 Γ .pas)) := s_pas
theorem Gd.iff (_ : Gd T k Γ sc X) {sa sb : List Stmt} {ta tb : Ss} (hc : PT X e (rt X.K Γ ea)) (ha : PSs X sa (rdS X.K (W Γ ta))) (hb : PSs X sb (rdS X.K (W Γ tb))) : PS X (.If e sa sb pos) (rdS X.K (W1 Γ (.iff ea ta tb))) := s_iff hc ha hb
theorem Gd.whl (g : Gd T k Γ sc X) {sb : List Stmt} {tb : Ss} (hc : PT X e (rt X.K Γ ea)) (hb : PSs X sb (rdS X.K (W Γ tb))) : PS X (.While e sb [] pos) (rdS X.K (W1 Γ (.whl ea tb))) := s_whl g.own hc hb
theorem Gd.each (g : Gd T k Γ sc X) (fn : X.fn = fun _ => true) {sb : List Stmt} {tb : Ss} {s : Sr} (hi : PI X (.Name x p1) e (rdI X.K (srcW Γ s))) (hb : PSs X sb (rdS X.K (W Γ tb))) (h : loB T.N sc j x = true := by decide +kernel) (hh : hd e = true := by rfl) :
    PS X (.For (.Name x p1) e sb [] pos) (rdS X.K (W1 Γ (.each j s tb))) := s_each g.own g.calm g.nd (g.lo h).1 (g.lo h).2 (.inl (by rw [fn])) hh hi hb
end
/-! ### a name and a comprehension on one line -/
section
variable {elt iter kx vx : Expr} {ifs : List Expr} {scope : Scope} {s : Sr} {c : Exs} {e ek ev : Ex}
def swB (scope : Scope) (y : Str) : Bool := !(scope.names.any fun (n, k) => n == y && (k == .local || k == .cell))
theorem Gd.asgLc (g : Gd T k Γ sc X) (hi : PI X (.Name x p1) iter (rdI X.K (srcW Γ s))) (ht : ∀ {Y : Cx}, Gd T k Γ (relS scope sc) Y → PTs Y ifs (rdT Y.K fun ρ P => cnd Γ c ρ P)) (he : ∀ {Y : Cx}, Gd T k Γ (relS scope sc) Y → PE Y elt (rd Y.K (E Γ e)))
    (h : tgB T.N sc scope j x = true := by decide +kernel) (hy : llB T.N sc i y = true := by decide +kernel) (hsw : swB scope y = true := by decide +kernel) (hl : (p2.line == p3.line) = true := by rfl) (hh : hd iter = true := by rfl) :
    PS X (.Assign [.Name y p2] (.ListComp elt [⟨.Name x p1, iter, ifs, 0⟩] scope p3) pos) (rdS X.K (W1 Γ (.asg i (.lc j s c e)))) := by
  unfold tgB at h
  rw [Bool.and_eq_true] at h
  have bo := blkB_ok h.1
  refine ps_imp (ps_setLc (own := [(x, j)]) (wi := rdI X.K (srcW Γ s)) (g := gName j) (tt := rdT X.K fun ρ P => cnd Γ c ρ P) (te := rd X.K (E Γ e)) g.calm g.nd (g.ll hy).1 (g.ll hy).2 (sw_true (by rw [g.scp]; exact g.fk) (g.ll hy).2 hl (not_t hsw)) hi (by rw [g.N, g.scp]; exact bo) (fun s' H C cl fp => ?_) (fun s' H C cl fp => ht (g.blk scope s' H C cl fp bo.kind)) (fun s' H C cl fp => he (g.blk scope s' H C cl fp bo.kind)) (set_hd hh))
    fun D σ H q => ?_
  · have gb := g.blk scope s' H C cl fp bo.kind
    exact pg_name gb.nd (gb.ll h.2).1 (.inl (gb.ll h.2).2) (.inr (gb.ll h.2).2)
  · exact lc_imp (fun _ _ _ z => z) (asg_rd q)
end
/-! ### a, b = .. -/
def putV : List Nat → List V → L2.St → L2.St
  | i :: l, v :: vs, σ => putV l vs (σ.set i (some v))
  | _, _, σ => σ
def gU (l : List Nat) : TGs := fun vs σ H Q => vs.length = l.length ∧ Q (putV l vs σ) H
theorem Gd.tnil (_ : Gd T k Γ sc X) : PGs X [] (gU []) := ⟨fun pins s σ H vs us Q I r h => pgs_nil.run pins s σ H vs us Q I r (by
  obtain ⟨h1, h2⟩ := h
  have e := List.eq_nil_of_length_eq_zero h1
  subst e
  exact ⟨rfl, h2⟩)⟩
theorem Gd.tcons (g : Gd T k Γ sc X) (fn : X.fn = fun _ => true) {es : List Expr} {l : List Nat} (hr : PGs X es (gU l)) (h : loB T.N sc i x = true := by decide +kernel) : PGs X (.Name x p1 :: es) (gU (i :: l)) :=
  ⟨fun pins s σ H vs us Q I r q => (pgs_cons (pg_name (pos := p1) g.nd (g.lo h).1 (g.lo h).2 (.inl (by rw [fn]))) hr).run pins s σ H vs us Q I r (by
    obtain ⟨h1, h2⟩ := q
    cases vs with
    | nil => cases h1
    | cons v vs => exact ⟨v, vs, rfl, Nat.succ.inj h1, h2⟩)⟩
theorem put_all {K : PySem.W.Frag} {B : Bs} {w : Wd} : ∀ (l : List Nat) {ds : List D} {vs : List V} {ρ : Env'} {σ : L2.St}, SR K B w ρ σ → RpA w.f vs ds → SR K B w (putAll l ds ρ) (putV l vs σ)
  | [], _, _, _, _, s, _ => by simpa [putAll, putV] using s
  | i :: l, [], [], _, _, s, _ => s
  | i :: l, d :: ds, v :: vs, _, _, s, .cons r rs => put_all l (s.putF r) rs
theorem Gd.asgU (g : Gd T k Γ sc X) {es : List Expr} {l : List Nat} {e : Expr} {ea : Ex} (ht : PGs X es (gU l)) (he : PE X e (rd X.K (E Γ ea))) (hn : (assignEach es X.env).length = l.length := by rfl) (hst : (assignEach es X.env).findIdx? (·.1) = none := by rfl)
    (hs : swapsWithSole [.Tuple es j p1] e pos.line X.env = pure false := by rfl) (hw : swappedStores [.Tuple es j p1] e X.env = pure none := by rfl) : PS X (.Assign [.Tuple es j p1] e pos) (rdS X.K (W1 Γ (.asgU l ea))) := by
  have t1 : PG X (.Tuple es j p1) (gTup X.K l.length (gU l)) := pg_tup g.calm ht hn hst
  have t2 : PG X (.Tuple es j p1) (gUnl X.K l.length (gU l)) := pg_unl g.calm ht hn hst
  have t3 : PG X (.Tuple es j p1) (fun v σ H Q => gTup X.K l.length (gU l) v σ H Q ∨ gUnl X.K l.length (gU l) v σ H Q) := ⟨fun pins s σ H v u Q I r h => h.elim (t1.run pins s σ H v u Q I r) (t2.run pins s σ H v u Q I r)⟩
  refine ps_imp (ps_asg he t3 hs hw) fun D σ H q => ?_
  obtain ⟨B, w, ρ, rfl, s, q⟩ := q
  refine rd_go s (E.mono ea (fun r q w' v e o => ?_) q)
  split at q <;> first | contradiction | skip
  · rename_i ds er
    obtain ⟨a, vs, e1, e2, e3⟩ := o.list e.ok er
    subst e1
    exact .inr ⟨a, vs, rfl, e2, by rw [e3.len]; exact q.1, by rw [e3.len]; exact q.1, q.2 w' _ (put_all l (s.grow e) e3)⟩
  · rename_i ds er
    obtain ⟨kd, d⟩ := r
    have er : d = .tuple ds := er
    subst er
    obtain ⟨a, vs, e1, e2, e3⟩ := o.tuple
    subst e1
    exact .inl ⟨a, vs, rfl, SqT.of (e.ok.fh _ _ e2), by rw [e3.len]; exact q.1, by rw [e3.len]; exact q.1, q.2 w' _ (put_all l (s.grow e) e3)⟩
/-! ### dicts whose keys are tuples -/
theorem od_put {K : PySem.W.Frag} {w w0 : Wd} {ρ : Env'} {σ : L2.St} {B : Bs} {q : Addr} {t : Bool} {kvs : List (D × D)} (s : SR K B w0 ρ σ) (e : Ext w0 w) (hq : w0.h q = none) (hb : w.b q = none) (h : DiOk w q t kvs) : SR K B w (ρ.set i (.od t kvs)) (σ.set i (some (.ref q))) :=
  (s.grow e).put ⟨q, rfl, hb, h⟩ fun _ j y q' ne hj ho hv z => by
    cases z
    exact owned_there s hj ho hv hq
theorem Gd.dnew0 (g : Gd T k Γ sc X) (fn : X.fn = fun _ => true) (h : loB T.N sc i x = true := by decide +kernel) : PS X (.Assign [.Name x p1] (.Dict [] [] p2) pos) (rdS X.K (W1 Γ (.dnew true i .nil))) :=
  ps_imp (ps_set g.nd (g.lo h).1 (g.lo h).2 pe_dnewT rfl (.inl (by rw [fn]))) fun D σ H q => by
    obtain ⟨B, w, ρ, rfl, s, q⟩ := q
    obtain ⟨kvs, e1, _, _, q⟩ := q
    cases e1
    intro p hp
    have nb : w.b p = none := Same.back s.ok.bh hp
    exact q (w.add p (.dT [])) _ (od_put s (Ext.add s.ok hp) hp nb ⟨[], upd_same, .nil⟩)
theorem key_tup {w : Wd} {a : D} {v : V} (ok : w.Ok) (r : Rp w.f v a) (h : keyOk true a = true) : ∃ (b : Addr) (ks : List Key), v = .ref b ∧ w.f b = some (.tup (ks.map kV)) ∧ a = .tuple (ks.map keyD) := by
  cases r with
  | tup e r =>
    obtain ⟨ks, e1, e2⟩ := keys_of r h
    subst e1 e2
    exact ⟨_, ks, rfl, e, rfl⟩
  | non => cases h
  | bl b => cases h
  | int i => cases h
  | str z => cases h
  | lst e r => cases h
theorem Gd.dnew1 (g : Gd T k Γ sc X) (fn : X.fn = fun _ => true) {a e : Expr} {ia ea : Ex} (ha : PE X a (rd X.K (E Γ ia))) (he : PE X e (rd X.K (E Γ ea))) (h : loB T.N sc i x = true := by decide +kernel) :
    PS X (.Assign [.Name x p1] (.Dict [some a] [e] p2) pos) (rdS X.K (W1 Γ (.dnew true i (.cons ia (.cons ea .nil))))) :=
  ps_imp (ps_set g.nd (g.lo h).1 (g.lo h).2 (pe_disp1 (by have := g.hu; omega) ha he) rfl (.inl (by rw [fn]))) fun DD σ H q => by
    obtain ⟨B, w, ρ, rfl, s, q⟩ := q
    intro p hp
    have e0 := Ext.add (o := .dT []) s.ok hp
    have nb : w.b p = none := Same.back s.ok.bh hp
    refine rd_go (s.grow e0) (show E Γ ia ρ _ from E.mono ia (fun r q w1 v1 e1 o1 => ?_) q)
    cases ck : toCl r with
    | none =>
      have q := E.mono ea (Q' := fun _ => False) (fun r2 q => by
        obtain ⟨kvs, z, _⟩ := q
        simp [pairsD, ck] at z) q
      exact (E.mono ea (fun _ z => z.elim) q : E Γ ea ρ fun _ => _) |> fun z => rd_go ((s.grow e0).grow e1) z
    | some a' =>
      obtain ⟨w2, h2, e2, r2⟩ := o1.clean e1 ck
      rw [← h2]
      refine rd_go ((s.grow e0).grow e2) (E.mono ea (fun r3 q w3 v3 e3 o3 => ?_) q)
      obtain ⟨kvs, z1, z2, z3, q⟩ := q
      cases cv : toCl r3 with
      | none => simp [pairsD, ck, cv] at z1
      | some b' =>
        obtain ⟨w4, h4, e4, r4⟩ := o3.clean e3 cv
        have ek : kvs = [(a', b')] := by
          simp [pairsD, ck, cv] at z1
          exact z1.symm
        subst ek
        have kk : keyOk true a' = true := by simpa using z2
        have r5 := r2.mono (e4.sf e2.ok)
        obtain ⟨b, ks, e5, e6, e7⟩ := key_tup e4.ok r5 kk
        have e24 : Ext (w.add p (.dT [])) w4 := e2.trans e4
        have hp4 : w4.h p = some (.dT []) := e24.h _ _ upd_same
        have nb4 : w4.b p = none := (e24.b p (some_ne upd_same)).trans nb
        rw [← h4]
        refine ⟨b, ks, e5, e4.ok.fh _ _ e6, hp4, ?_⟩
        have ex : Ext w ⟨w4.f, w4.b, upd w4.h p (.dT [(ks, v3)])⟩ := upd_ext (e0.trans e24) hp nb4
        have fin : SR X.K B ⟨w4.f, w4.b, upd w4.h p (.dT [(ks, v3)])⟩ (ρ.set i (.od true [(a', b')])) (σ.set i (some (.ref p))) :=
          od_put s ex hp nb4 ⟨[(ks, v3)], upd_same, .cons ⟨e7.symm, r4⟩ .nil⟩
        have e8 : ([(a', b')].foldl (fun acc e => putD acc e.1 e.2) ([] : List (D × D))) = [(a', b')] := by
          show putD [] a' b' = _
          rw [put_new (fun ⟨e, m, _⟩ => nomatch m)]
          rfl
        have q : (ends X.K B DD).nx (ρ.set i (.od true [(a', b')])) := e8 ▸ q
        exact q _ _ fin
end
end Ir

set_option Elab.async false
set_option linter.all false
set_option maxRecDepth 100000
set_option maxHeartbeats 1000000
/-! Ir14: dict comprehensions with tuples for keys. -/
namespace Ir
open PySem
open L2
open PySem.Spec

section
variable {X : Cx} {T : Tb} {k : Nat} {Γ : List Spc} {sc : Scope} {pos p p1 p2 p3 : Pos} {i j : Nat} {x y : Str}
theorem dct_imp {j : Nat} {s : Sr} {ek ev : Ex} {σ : L2.St} {H : Hp} {Q : VK}
    (h : ∃ B w ρ, w.h = H ∧ SR X.K B w ρ σ ∧ srcW Γ s ρ fun _ ds => dcW (fun d P => E Γ ek (ρ.set j (.fz d)) P) (fun d P => E Γ ev (ρ.set j (.fz d)) P) true (fun kvs => ∀ w' q, Ext w w' → w.h q = none → w'.b q = none → DiOk w' q true kvs → Q (.ref q) w'.h) ds []) :
    tDcT (rdI X.K (srcW Γ s)) (gName j) (rd X.K (E Γ ek)) (rd X.K (E Γ ev)) [j] σ H Q := by
  obtain ⟨B, w, ρ, rfl, sr, q⟩ := h
  refine rdI_go sr (srcW.mono s (fun kd ds q w1 J e1 src => ?_) q)
  intro Dl nD
  have e5 : ∀ v, (σ.set j none).set j v = σ.set j v := fun v => List.set_set ..
  let P : List (D × D) → Prop := fun kvs => ∀ w' q, Ext w w' → w.h q = none → w'.b q = none → DiOk w' q true kvs → Q (.ref q) w'.h
  let At : Wd → List (D × D) → Prop := fun w2 acc => Ext w1 w2 ∧ w2.b Dl = none ∧ DiOk w2 Dl true acc
  let R : List D → List (D × D) → Prop := dcW (fun d P => E Γ ek (ρ.set j (.fz d)) P) (fun d P => E Γ ev (ρ.set j (.fz d)) P) true P
  have q : R ds [] := q
  refine ⟨fun i m H => m = ds.length - i ∧ i ≤ ds.length ∧ ∃ w2 acc, w2.h = H ∧ At w2 acc ∧ R (ds.drop i) acc,
    ⟨ds.length, by omega, Nat.zero_le _, w1.add Dl (.dT []), [], rfl, ⟨Ext.add e1.ok nD, Same.back e1.ok.bh nD, [], upd_same, .nil⟩, q⟩, ?_⟩
  rintro i m H ⟨rfl, hi, w2, acc, rfl, ⟨e2, nb, hD⟩, q⟩
  have src2 : Here X.K w2.h w2.f ds J := src.1.mono e2.h (e2.sf e1.ok)
  by_cases lt : i < ds.length
  · obtain ⟨d, hd1, hd2⟩ := drop_cons lt
    rw [hd2] at q
    obtain ⟨hz, q⟩ := q
    obtain ⟨go, yl⟩ := here_go src2 hd1
    refine .inr ⟨go, fun H' => ∃ w3 acc', w3.h = H' ∧ At w3 acc' ∧ R (ds.drop (i + 1)) acc', ?_, fun v H' y => ?_⟩
    · rintro H' ⟨w3, acc', h1, h2, h3⟩
      exact ⟨ds.length - (i + 1), by omega, rfl, lt, w3, acc', h1, h2, h3⟩
    · obtain ⟨eH, rx⟩ := yl v H' y
      subst eH
      show wipe ((wipe σ [j]).set j (some v)) [j] = wipe σ [j] ∧ _
      have wip : wipe σ [j] = σ.set j none := rfl
      rw [wip, e5]
      refine ⟨List.set_set .., ?_⟩
      have s2 : SR X.K B w2 (ρ.set j (.fz d)) (σ.set j (some v)) := (sr.grow (e1.trans e2)).putF rx
      refine rd_go s2 (E.mono ek (fun r q w3 v3 e3 o3 => ?_) q)
      obtain ⟨c1, c2, q⟩ := q
      obtain ⟨kd, dk⟩ := r
      have c1 : kd = .cl := c1
      subst c1
      have o3 : Rp w3.f v3 dk := o3
      refine rd_go (s2.grow e3) (E.mono ev (fun r q w4 v4 e4 o4 => ?_) q)
      obtain ⟨z, hz2, q⟩ := q
      obtain ⟨w5, h5, e5, r5⟩ := o4.clean e4 hz2
      have e25 : Ext w2 w5 := e3.trans e5
      obtain ⟨b, ks, k1, k2, k3⟩ := key_tup e5.ok (o3.mono (e5.sf e3.ok)) c2
      obtain ⟨es, g1, g2⟩ := hD
      have g3 : w5.h Dl = some (.dT es) := e25.h _ _ g1
      have g4 := Paired.imp (G := fun x (y : D × D) => PyData.tuple (x.1.map keyD) = y.1 ∧ Rp w5.f x.2 y.2) (fun a b q => ⟨q.1, q.2.mono (e25.sf e2.ok)⟩) g2
      have nb5 : w5.b Dl = none := (e25.b Dl (some_ne g1)).trans nb
      rw [← h5]
      refine ⟨b, ks, es, k1, e5.ok.fh _ _ k2, g3, by rw [KV.lenP g4]; exact hz, ⟨w5.f, w5.b, upd w5.h Dl (.dT (putK es ks v4))⟩, _, rfl, ⟨upd_ext (e2.trans e25) nD nb5, nb5, _, upd_same, put_rel (f := fun ks : List Key => PyData.tuple (ks.map keyD)) tupD_inj ks r5 g4⟩, ?_⟩
      have k3' : PyData.tuple (ks.map keyD) = dk := k3.symm
      rw [k3']
      exact q
  · have ei : i = ds.length := by omega
    subst ei
    rw [List.drop_length] at q
    have q : P acc := q
    exact .inl ⟨here_stop src2 (Nat.le_refl _), q w2 Dl (e1.trans e2) (Same.back e1.h nD) nb hD⟩
theorem dc_true {kx vx : Expr} {gs : List Comprehension} {scope : Scope} {l : Nat} {env : Env} (hk : env.scope.kind = .function) (hy : env.scope.names.lookup y = some .local) (hl : (p2.line == p3.line) = true) (ha : swB scope y = true) :
    swapsWith (.DictComp kx vx gs scope p3) (some (.Name y p2)) l env = pure true := by
  have a1 : env.kindOf y = some .local := hy
  have a2 : env.blockKind = .function := by
    unfold Env.blockKind
    rw [hk] <;> rfl
  have a3 := not_t ha
  unfold swapsWith
  simp only [a2, a1, a3, Expr.pos, hl] <;> rfl
theorem dc_cell {kx vx : Expr} {gs : List Comprehension} {scope : Scope} {l : Nat} {env : Env} (hy : env.scope.names.lookup y = some .cell) : swapsWith (.DictComp kx vx gs scope p3) (some (.Name y p2)) l env = pure false := by
  have a1 : env.kindOf y = some .cell := hy
  have a4 : (some NameKind.cell == some NameKind.local) = false := by decide
  unfold swapsWith
  simp only [a1, a4, Bool.and_false, Bool.false_and]
def clB (sc : Scope) (x : Str) : Bool := sc.names.lookup x == some .cell
section
variable {kx vx iter : Expr} {scope : Scope} {s : Sr} {ek ev : Ex}
theorem dc_go {D : Ends} {σ : L2.St} {H : Hp} (h : rdS X.K (W1 Γ (.dcomp true i j s ek ev)) D σ H) : ∃ B w ρ, w.h = H ∧ SR X.K B w ρ σ ∧ srcW Γ s ρ fun _ ds => dcW (fun d P => E Γ ek (ρ.set j (.fz d)) P) (fun d P => E Γ ev (ρ.set j (.fz d)) P) true
    (fun kvs => ∀ w' q, Ext w w' → w.h q = none → w'.b q = none → DiOk w' q true kvs → D.nx (σ.set i (some (.ref q))) w'.h) ds [] := by
  obtain ⟨B, w, ρ, rfl, sr, q⟩ := h
  refine ⟨B, w, ρ, rfl, sr, ?_⟩
  have q : srcW Γ s ρ fun _ ds => dcW (fun d P => E Γ ek (ρ.set j (.fz d)) P) (fun d P => E Γ ev (ρ.set j (.fz d)) P) true (fun kvs => (ends X.K B D).nx (ρ.set i (.od true kvs))) ds [] := by
    simpa only [W1] using q
  refine srcW.mono s (fun kd ds q => dcW.mono (fun d P P2 z q => E.mono ek (ρ := ρ.set j (.fz d)) (Q := P) (Q' := P2) z q) (fun d P P2 z q => E.mono ev (ρ := ρ.set j (.fz d)) (Q := P) (Q' := P2) z q) (fun kvs q w' a e hn hb hd => ?_) ds [] q) q
  exact q w' _ (od_put sr e hn hb hd)
theorem Gd.asgDc (g : Gd T k Γ sc X) (hi : PI X (.Name x p1) iter (rdI X.K (srcW Γ s))) (hk : ∀ {Y : Cx}, Gd T k Γ (relS scope sc) Y → PE Y kx (rd Y.K (E Γ ek))) (hv : ∀ {Y : Cx}, Gd T k Γ (relS scope sc) Y → PE Y vx (rd Y.K (E Γ ev)))
    (h : tgB T.N sc scope j x = true := by decide +kernel) (hy : llB T.N sc i y = true := by decide +kernel) (hsw : swB scope y = true := by decide +kernel) (hl : (p2.line == p3.line) = true := by rfl) (hh : hd iter = true := by rfl) :
    PS X (.Assign [.Name y p2] (.DictComp kx vx [⟨.Name x p1, iter, [], 0⟩] scope p3) pos) (rdS X.K (W1 Γ (.dcomp true i j s ek ev))) := by
  unfold tgB at h
  rw [Bool.and_eq_true] at h
  have bo := blkB_ok h.1
  refine ps_imp (ps_setDct (own := [(x, j)]) (wi := rdI X.K (srcW Γ s)) (g := gName j) (tk := rd X.K (E Γ ek)) (tv := rd X.K (E Γ ev)) g.calm (by have := g.hu; omega) g.nd (g.ll hy).1 (g.ll hy).2 (dc_true (by rw [g.scp]; exact g.fk) (g.ll hy).2 hl hsw) hi (by rw [g.N, g.scp]; exact bo)
    (fun s' H C cl fp => ?_) (fun s' H C cl fp => hk (g.blk scope s' H C cl fp bo.kind)) (fun s' H C cl fp => hv (g.blk scope s' H C cl fp bo.kind)) (set_hd hh)) fun DD σ H q => dct_imp (dc_go q)
  have gb := g.blk scope s' H C cl fp bo.kind
  exact pg_name gb.nd (gb.ll h.2).1 (.inl (gb.ll h.2).2) (.inr (gb.ll h.2).2)
theorem Gd.asgDcC (g : Gd T k Γ sc X) (fn : X.fn = fun _ => true) (hi : PI X (.Name x p1) iter (rdI X.K (srcW Γ s))) (hk : ∀ {Y : Cx}, Gd T k Γ (relS scope sc) Y → PE Y kx (rd Y.K (E Γ ek))) (hv : ∀ {Y : Cx}, Gd T k Γ (relS scope sc) Y → PE Y vx (rd Y.K (E Γ ev)))
    (h : tgB T.N sc scope j x = true := by decide +kernel) (hy : loB T.N sc i y = true := by decide +kernel) (hc : clB sc y = true := by decide +kernel) (hh : hd iter = true := by rfl) :
    PS X (.Assign [.Name y p2] (.DictComp kx vx [⟨.Name x p1, iter, [], 0⟩] scope p3) pos) (rdS X.K (W1 Γ (.dcomp true i j s ek ev))) := by
  unfold tgB at h
  rw [Bool.and_eq_true] at h
  have bo := blkB_ok h.1
  have he : PE X (.DictComp kx vx [⟨.Name x p1, iter, [], 0⟩] scope p3) _ := pe_dct (own := [(x, j)]) (wi := rdI X.K (srcW Γ s)) (g := gName j) (tk := rd X.K (E Γ ek)) (tv := rd X.K (E Γ ev)) g.calm (by have := g.hu; omega) g.nd hi (by rw [g.N, g.scp]; exact bo)
    (fun s' H C cl fp => by
      have gb := g.blk scope s' H C cl fp bo.kind
      exact pg_name gb.nd (gb.ll h.2).1 (.inl (gb.ll h.2).2) (.inr (gb.ll h.2).2)) (fun s' H C cl fp => hk (g.blk scope s' H C cl fp bo.kind)) (fun s' H C cl fp => hv (g.blk scope s' H C cl fp bo.kind)) (set_hd hh)
  exact ps_imp (ps_set g.nd (g.lo hy).1 (g.lo hy).2 he (dc_cell (by rw [g.scp]; exact eq_of_beq hc)) (.inl (by rw [fn]))) fun DD σ H q => dct_imp (dc_go q)
end
end
end Ir

set_option Elab.async false
set_option linter.all false
set_option maxRecDepth 100000
set_option maxHeartbeats 1000000
/-! Ir15: a def's promise from its reading; the law's end. -/
namespace Ir
open PySem
open L2
open PySem.Spec
open PyProof.Rows (IntsAre)

def argSl : Arg → Sl
  | .cl d => .fz d
  | .sh ds => .sh ds
  | .sc ns => .sc ns
def start0 (n : Nat) (as : List Arg) : Env' := as.map argSl ++ List.replicate (n - as.length) .un
section
variable {P : Program} {w : World} {K : PySem.W.Frag} {mg : Str → Option Value} {base : Heap}
theorem rep_len {Hf H : Hp} {as : List Arg} {vs : List V} (h : ArgsRep K Hf H as vs) : as.length = vs.length := Paired.length h
theorem rep_at {Hf H : Hp} : ∀ {as : List Arg} {vs : List V}, ArgsRep K Hf H as vs → ∀ (i : Nat) (a : Arg), as[i]? = some a → ∃ v, vs[i]? = some v ∧ ArgRep K Hf H a v
  | _, _, .cons r rs, 0, a, e => by
    cases e
    exact ⟨_, rfl, r⟩
  | _, _, .cons r rs, i + 1, a, e => rep_at rs i a e
theorem start_rel {N : List Str} {Hf H : Hp} {as : List Arg} {vs : List V} (k : Same Hf H) (h : ArgsRep K Hf H as vs) : SR K ⟨⟨Hf, H, H⟩, Hf, H⟩ ⟨Hf, H, H⟩ (start0 N.length as) (L2.start N vs) := by
  have l := rep_len h
  have ok : Wd.Ok ⟨Hf, H, H⟩ := ⟨k, Same.refl H⟩
  have noO : ∀ (i : Nat) (s : Sl), (start0 N.length as)[i]? = some s → owned s = false := fun i s e => by
    have m := List.mem_of_getElem? e
    unfold start0 at m
    rcases List.mem_append.mp m with m | m
    · obtain ⟨a, _, e⟩ := List.mem_map.mp m
      subst e
      cases a <;> rfl
    · rw [(List.mem_replicate.mp m).2]
      rfl
  refine ⟨ok, rfl, Ext.refl ok, Same.refl _, Same.refl _, ?_, fun i s e => ?_, fun i j s t p h1 h2 h3 h4 _ _ => ?_⟩
  · unfold start0 L2.start
    simp only [List.length_append, List.length_map, List.length_replicate, l]
  · by_cases c : i < as.length
    · unfold start0 at e
      rw [List.getElem?_append_left (by rw [List.length_map]; exact c), List.getElem?_map] at e
      cases ea : as[i]? with
      | none =>
        rw [ea] at e
        cases e
      | some a =>
        rw [ea] at e
        cases e
        obtain ⟨v, e2, r⟩ := rep_at h i a ea
        refine ⟨some v, ?_, ?_⟩
        · unfold L2.start
          rw [List.getElem?_append_left (by rw [List.length_map, ← l]; exact c), List.getElem?_map, e2]
          rfl
        · cases r with
          | cl r => exact ⟨v, rfl, r⟩
          | sh e r => exact ⟨_, _, rfl, e, r⟩
          | sc e => exact ⟨_, rfl, e⟩
    · unfold start0 at e
      rw [List.getElem?_append_right (by rw [List.length_map]; omega), List.length_map] at e
      have lt := (List.getElem?_eq_some_iff.mp e).1
      rw [List.length_replicate] at lt
      have es : s = .un := by
        have m := List.mem_of_getElem? e
        exact (List.mem_replicate.mp m).2
      subst es
      refine ⟨none, ?_, True.intro⟩
      unfold L2.start
      rw [List.getElem?_append_right (by rw [List.length_map, ← l]; omega), List.length_map, ← l, List.getElem?_replicate, if_pos lt]
  · rw [noO i s h1] at h3
    cases h3
/-- a def's promise -/
theorem def_g {x qual : Str} {st : Stmt} {f : Addr} {fd : FuncData} {T : Tb} {ps : List Str} {k : Nat} {S : Spc} {Γ : List Spc} {ir : Ss} (F : Fun K x qual st f fd) (SC : FnScope T.N ps (defScope st)) (hbn : ∀ y ∈ bnames, mg y = none)
    (hfn : ∀ (i : Nat) (S : Spc), Γ[i]? = some S → ∃ y, T.fns[i]? = some y ∧ Known P w K mg base k y S)
    (hb : ∀ X : Cx, Gd T k Γ (defScope st) X → X.fn = (fun _ => true) → PSs X (defBody st) (rdS X.K (W Γ ir)))
    (hS : ∀ as R, S as R → as.length = ps.length ∧ W Γ ir (start0 T.N.length as) { nx := fun _ => R (.cl, .none), rt := R, bk := fun _ => False, ct := fun _ => False }) :
    FnG P w K mg base (k + 1) f fd ps (spD K S) := by
  refine fn_g F SC (fun vs H Q E h => ?_) fun cdv A outer s H vs Q hg hr h => ?_
  · obtain ⟨Hf, as, R, h1, h2, h3, h4⟩ := h
    rw [← rep_len h2]
    exact (hS as R h3).1
  · obtain ⟨Hf, as, R, h1, h2, h3, h4⟩ := h
    refine ⟨_, hb _ ⟨rfl, SC.nd, rfl, SC.kind, rfl, hr, hg, PassesOwn.never, hbn, hfn⟩ rfl, ?_⟩
    refine ⟨_, _, _, rfl, start_rel h1 h2, W.mono ir (N := { nx := fun _ => R (.cl, .none), rt := R, bk := fun _ => False, ct := fun _ => False }) ⟨fun ρ q w' σ s => ?_, fun r q w' v e o c => h4 r w' v q e o c, fun ρ q => q.elim, fun ρ q => q.elim⟩ (hS as R h3).2⟩
    exact h4 _ w' .non q s.ext Rp.non (.inr rfl)
end
/-! ### the law's end -/
def spT (n : Nat) : Spc := fun as R => ∃ ns : List Int, as = [.sc ns] ∧ ns.length ≤ n ∧ R (.cl, .bool true)
theorem law_g {P : Program} {w : World} {K : PySem.W.Frag} {mg mb : Str → Option Value} {k n : Nat} {fa a : Addr} {fd : FuncData} {x : Str} {s₁ : Shared} {vs : List Value} {ns : List Int}
    (inK : K.In s₁.heap) (hm : s₁.heap.Ns mainGlobals mg) (hbt : s₁.heap.Ns builtinsNs mb) (hbb : ∀ y : Str, y ≠ "__name__" → mb y = bootBuiltins y) (hlim : s₁.heap.NoLimit) (hgn : s₁.gens = #[])
    (obj : s₁.heap.get? a = some { cls := .type "list", data := .seq vs.toArray }) (hints : IntsAre vs ns) (hl : ns.length ≤ sizeLine) (hln : ns.length ≤ n) (hr : Room k callerA)
    (F : ∀ base : Heap, K.In base → base.Ns mainGlobals mg → FnG P w K mg base k fa fd [x] (spD K (spT n))) (bd : ∀ (s : Shared) (u : Value), BindsTo s fd ⟨[u], []⟩ [(x, u)]) :
    codeAny (model P w) callerA (.call (.ref fa) ⟨[.ref a], []⟩) (fun r s' => r = .ok (.ret (.bool true)) ∧ OldK s₁.heap s'.heap ∧ s'.os = s₁.os ∧ PyProof.Rows.AllBare s'.gens) s₁ := by
  have valsI := vals_ints hints
  have lv := hints.length
  have main : ∀ H : Hp, Only H → SqL K H a (ns.map V.int) → HOk P w H s₁.heap → (∀ b, H b ≠ none → b = a) → (H a ≠ none → K.lookup a = none) →
      codeAny (model P w) callerA (.call (.ref fa) ⟨[.ref a], []⟩) (fun r s' => r = .ok (.ret (.bool true)) ∧ OldK s₁.heap s'.heap ∧ s'.os = s₁.os ∧ PyProof.Rows.AllBare s'.gens) s₁ := by
    intro H only sq hok ha hk
    have seen : ∀ {b : Addr}, b ≠ a → H b = none := fun {b} ne => Classical.byContradiction fun z => ne (ha b z)
    have dictNo : ∀ {b : Addr} {o : Obj} {es : Array DictEntry} {ep : Nat}, s₁.heap.get? b = some o → o.data = .dict es ep → H b = none := fun {b o es ep} e d => seen fun z => by
      subst z
      rw [obj] at e
      cases e
      cases (show Data.seq vs.toArray _ = Data.dict es ep from d)
    have nsOf : ∀ {b : Addr} {m : Str → Option Value}, s₁.heap.Ns b m → (hidT s₁.heap H).Ns b m := fun ⟨o, es, ep, e, d, r⟩ => ⟨o, es, ep, hidT_get e (dictNo e d), d, r⟩
    have kb : K.In (hidT s₁.heap H) := fun b o e => hidT_get (inK b o e) (Classical.byContradiction fun z => by
      have eb := ha b z
      subst eb
      rw [hk z] at e
      cases e)
    have md : Mod K mg (hidT s₁.heap H) := ⟨kb, nsOf hm, ⟨mb, nsOf hbt, hbb⟩, by
      obtain ⟨mc, h1, h2⟩ := hlim
      exact ⟨mc, nsOf h1, h2⟩⟩
    have e0 : Env0 P w K mg (hidT s₁.heap H) callerA [] s₁ H := ⟨rfl, md, fun b o e => of_hidT e, Nat.le_of_eq (hidT_size _ _), True.intro, fun b hb => (List.not_mem_nil (a := b) hb).elim, hok, .of_eq hgn⟩
    have sp : spD K (spT n) [.ref a] H (fun v _ => v = .bl true) E0 := by
      refine ⟨fun _ => none, [.sc ns], fun r => r = (.cl, .bool true), (fun b o z => nomatch z), .cons (.sc sq) .nil, ⟨ns, rfl, hln, rfl⟩, fun r w' v er _ o _ => ?_⟩
      subst er
      exact o.bool
    refine codeAny_mono ((F _ kb (nsOf hm)).run callerA [] s₁ H ⟨[.ref a], []⟩ [.ref a] [.ref a] _ rfl hr e0 (bd s₁ (.ref a)) (.cons rfl .nil) sp) fun r s' h => ?_
    cases r with
    | error e => exact h.elim
    | ok fl =>
      cases fl with
      | next => exact h.elim
      | brk => exact h.elim
      | cont => exact h.elim
      | ret u =>
        obtain ⟨v, H2, eos, bare, un, hok2, rel, ev⟩ := h
        have ev : v = .bl true := ev
        subst ev
        cases (show u = Value.bool true from rel)
        refine ⟨rfl, OldK.of_keep fun b o e => ?_, eos, bare⟩
        cases c : H b with
        | none => exact un.keep b o e c (fun z => (List.not_mem_nil (a := b) z).elim) (by simp)
        | some t =>
          rcases only b with z | ⟨ob, xs, z⟩
          · rw [z] at c
            cases c
          · have g1 := (hok b _ z).1
            have g2 := (hok2 b _ (un.frzs b ob _ z)).1
            rw [e] at g1
            cases g1
            exact g2
  by_cases c : ∃ o, K.lookup a = some o
  · obtain ⟨o, c⟩ := c
    have e := inK a o c
    rw [obj] at e
    cases e
    exact main (fun _ => none) (fun _ => .inl rfl) (.inr ⟨_, vs.toArray, _, c, rfl, rfl, rfl, by rw [List.size_toArray, lv]; exact hl, by simpa using valsI⟩) (fun b u z => nomatch z) (fun b z => absurd rfl z) fun z => absurd rfl z
  · have cn : K.lookup a = none := by
      cases q : K.lookup a with
      | none => rfl
      | some o => exact absurd ⟨o, q⟩ c
    have at1 : (fun b => if b = a then some (HO.frz { cls := .type "list", data := .seq vs.toArray } (.lst (ns.map V.int))) else none : Hp) a = some (.frz { cls := .type "list", data := .seq vs.toArray } (.lst (ns.map V.int))) := if_pos rfl
    have at2 : ∀ b, b ≠ a → (fun b => if b = a then some (HO.frz { cls := .type "list", data := .seq vs.toArray } (.lst (ns.map V.int))) else none : Hp) b = none := fun b z => if_neg z
    generalize (fun b => if b = a then some (HO.frz { cls := .type "list", data := .seq vs.toArray } (.lst (ns.map V.int))) else none : Hp) = H at at1 at2
    refine main H (fun b => ?_) (.inl (.inr ⟨_, at1⟩)) (fun b u z => ?_) (fun b z => Classical.byContradiction fun q => z (at2 b q)) fun _ => cn
    · by_cases q : b = a
      · subst q
        exact .inr ⟨_, _, at1⟩
      · exact .inl (at2 b q)
    · by_cases q : b = a
      · subst q
        rw [at1] at z
        cases z
        exact ⟨obj, by rw [List.length_map]; exact hl, vs, _, valsI, obj⟩
      · rw [at2 b q] at z
        cases z
/-- what k_head leaves -/
theorem walk_g {l : PySem.W.OpenLaw} {n k : Nat} {q : Program} {loose : List Str} {XP : (Str → Option Value) → Heap → Prop} {YP : World → Heap → Prop} {d : DefRec} {K : Params → PySem.W.Frag} {x : Str} (hn : l.most = some n) (hz : n ≤ sizeLine) (hdf : d.params.defaults = []) (hr : Room k callerA)
    (hY : ∀ (w : World) (h : Heap), YP w h → (K w.params).In h)
    (F : ∀ (w : World) (mg : Str → Option Value) (fa : Addr) (h : Heap), (K w.params).In h → h.Ns mainGlobals mg → mg d.name = some (.ref fa) →
      ∃ fd : FuncData, (∀ (s : Shared) (u : Value), BindsTo s fd ⟨[u], []⟩ [(x, u)]) ∧ ∀ base : Heap, (K w.params).In base → base.Ns mainGlobals mg → FnG l.prog w (K w.params) mg base k fa fd [x] (spD (K w.params) (spT n))) :
    PySem.W.WalkO q loose XP YP l.row.toRowW d [] (fun f vs => PySem.call f vs) := by
  refine Att.attach_call hn hdf fun w s₀ s₁ mg mb fa o pm cd doc a vs ns G Y ho hd hcd hmg hobj hints hlen hg => ?_
  obtain ⟨fd, bd, hF⟩ := F w mg fa _ (hY w _ Y) G.T.g hmg
  exact law_g (hY w _ Y) G.T.g G.T.b G.T.builtins G.T.nolimit hg hobj hints (Nat.le_trans hlen hz) hlen hr hF bd
end Ir

set_option Elab.async false
set_option linter.all false
set_option maxRecDepth 100000
set_option maxHeartbeats 1000000
/-! Ir16: the defs of a text, one after another. -/
namespace Ir
open PySem
open L2
open PySem.Spec

section
variable {P : Program} {w : World} {K : PySem.W.Frag} {mg : Str → Option Value} {base : Heap}
/-- the first k defs keep their promises -/
def Ks (P : Program) (w : World) (K : PySem.W.Frag) (mg : Str → Option Value) (base : Heap) (fns : List Str) (k : Nat) (Γ : List Spc) : Prop := ∀ (i : Nat) (S : Spc), Γ[i]? = some S → ∃ y, fns[i]? = some y ∧ Known P w K mg base k y S
theorem Known.mono {j k : Nat} {x : Str} {S : Spc} (h : Known P w K mg base j x S) (l : j ≤ k) : Known P w K mg base k x S := by
  obtain ⟨f, fd, ps, h1, h2, h3, h4⟩ := h.it
  exact ⟨⟨f, fd, ps, h1, h2, h3, h4.mono l⟩⟩
theorem ks_step {x : Str} {st : Stmt} {f : Addr} {fd : FuncData} {T : Tb} {ps fns : List Str} {k : Nat} {S : Spc} {Γ : List Spc} {ir : Ss} (F : Fun K x x st f fd) (SC : FnScope T.N ps (defScope st)) (hm : mg x = some (.ref f)) (bd : Binds K fd ps []) (hbn : ∀ y ∈ bnames, mg y = none) (hT : T.fns = fns) (hx : fns[Γ.length]? = some x)
    (ks : Ks P w K mg base fns k Γ) (hb : ∀ X : Cx, Gd T k Γ (defScope st) X → X.fn = (fun _ => true) → PSs X (defBody st) (rdS X.K (W Γ ir)))
    (hS : ∀ as R, S as R → as.length = ps.length ∧ W Γ ir (start0 T.N.length as) { nx := fun _ => R (.cl, .none), rt := R, bk := fun _ => False, ct := fun _ => False }) : Ks P w K mg base fns (k + 1) (Γ ++ [S]) := by
  intro i S' h
  by_cases c : i < Γ.length
  · rw [List.getElem?_append_left c] at h
    obtain ⟨y, h1, h2⟩ := ks i S' h
    exact ⟨y, h1, h2.mono (Nat.le_succ k)⟩
  · have lt := (List.getElem?_eq_some_iff.mp h).1
    rw [List.length_append, List.length_singleton] at lt
    have e : i = Γ.length := by omega
    subst e
    rw [List.getElem?_append_right (Nat.le_refl _), Nat.sub_self] at h
    cases h
    refine ⟨x, hx, ⟨f, fd, ps, hm, F.kp, bd, def_g F SC hbn (fun i S h => ?_) hb hS⟩⟩
    rw [hT]
    exact ks i S h
/-- a def that calls itself, at most n deep -/
theorem ks_rec {x : Str} {st : Stmt} {f : Addr} {fd : FuncData} {T : Tb} {ps fns : List Str} {k : Nat} {S : Nat → Spc} {Γ : List Spc} {ir : Ss} (F : Fun K x x st f fd) (SC : FnScope T.N ps (defScope st)) (hm : mg x = some (.ref f)) (bd : Binds K fd ps []) (hbn : ∀ y ∈ bnames, mg y = none) (hT : T.fns = fns) (hx : fns[Γ.length]? = some x)
    (ks : Ks P w K mg base fns k Γ) (h0 : ∀ as R, ¬ S 0 as R) (hb : ∀ (n k : Nat) (X : Cx), Gd T k (Γ ++ [S n]) (defScope st) X → X.fn = (fun _ => true) → PSs X (defBody st) (rdS X.K (W (Γ ++ [S n]) ir)))
    (hS : ∀ n as R, S (n + 1) as R → as.length = ps.length ∧ W (Γ ++ [S n]) ir (start0 T.N.length as) { nx := fun _ => R (.cl, .none), rt := R, bk := fun _ => False, ct := fun _ => False }) : ∀ n, Ks P w K mg base fns (k + n) (Γ ++ [S n]) := by
  have put : ∀ n, Known P w K mg base (k + n) x (S n) → Ks P w K mg base fns (k + n) (Γ ++ [S n]) := fun n kn i S' h => by
    by_cases c : i < Γ.length
    · rw [List.getElem?_append_left c] at h
      obtain ⟨y, h1, h2⟩ := ks i S' h
      exact ⟨y, h1, h2.mono (by omega)⟩
    · have lt := (List.getElem?_eq_some_iff.mp h).1
      rw [List.length_append, List.length_singleton] at lt
      have e : i = Γ.length := by omega
      subst e
      rw [List.getElem?_append_right (Nat.le_refl _), Nat.sub_self] at h
      cases h
      exact ⟨x, hx, kn⟩
  intro n
  induction n with
  | zero =>
    have no : ∀ vs H Q E, ¬ spD K (S 0) vs H Q E := fun vs H Q E h => by
      obtain ⟨_, as, R, _, _, h, _⟩ := h
      exact h0 as R h
    exact put 0 ⟨f, fd, ps, hm, F.kp, bd, ⟨fun vs H Q E h => absurd h (no vs H Q E), fun A outer s H args us vs Q g r _ _ _ h => absurd h (no vs H Q E0)⟩⟩
  | succ n ih =>
    refine put (n + 1) ⟨f, fd, ps, hm, F.kp, bd, def_g F SC hbn (fun i S h => ?_) (hb n (k + n)) (hS n)⟩
    rw [hT]
    exact ih i S h
end
end Ir

set_option Elab.async false
set_option linter.all false
/-! Gp: finite groups given by lists, plainly. -/
namespace Gp

structure Mon (α : Type) where
  mul : α → α → α
  one : α
  P : α → Prop
  pone : P one
  pmul : ∀ {a b}, P a → P b → P (mul a b)
  assoc : ∀ {a b c}, P a → P b → P c → mul (mul a b) c = mul a (mul b c)
  one_mul : ∀ {a}, P a → mul one a = a
  mul_one : ∀ {a}, P a → mul a one = a
  canc : ∀ {a b c}, P a → P b → P c → mul a b = mul a c → b = c

section
variable {α : Type} {M : Mon α}
inductive Gen (M : Mon α) (S : α → Prop) : α → Prop where
  | one : Gen M S M.one
  | step {s x : α} : S s → Gen M S x → Gen M S (M.mul s x)
theorem Gen.P {S : α → Prop} (h : ∀ s, S s → M.P s) {x : α} (g : Gen M S x) : M.P x := by
  induction g with
  | one => exact M.pone
  | step s _ ih => exact M.pmul (h _ s) ih
theorem Gen.of {S : α → Prop} {s : α} (hp : M.P s) (h : S s) : Gen M S s := by
  have q := Gen.step h (Gen.one (M := M) (S := S))
  rwa [M.mul_one hp] at q
theorem Gen.mul {S : α → Prop} (h : ∀ s, S s → M.P s) {x y : α} (g : Gen M S x) (k : Gen M S y) : Gen M S (M.mul x y) := by
  induction g with
  | one => rwa [M.one_mul (k.P h)]
  | step s g ih =>
    rw [M.assoc (h _ s) (g.P h) (k.P h)]
    exact .step s ih
theorem Gen.sub {S T : α → Prop} (hT : ∀ s, T s → M.P s) (h : ∀ s, S s → Gen M T s) {x : α} (g : Gen M S x) : Gen M T x := by
  induction g with
  | one => exact .one
  | step s _ ih => exact (h _ s).mul hT ih
theorem Gen.mono {S T : α → Prop} (h : ∀ s, S s → T s) {x : α} (g : Gen M S x) : Gen M T x := by
  induction g with
  | one => exact .one
  | step s _ ih => exact .step (h _ s) ih
/-- closed under products, with the one -/
structure Sub (M : Mon α) (L : List α) : Prop where
  one : M.one ∈ L
  mul : ∀ a ∈ L, ∀ b ∈ L, M.mul a b ∈ L
  P : ∀ a ∈ L, M.P a
theorem Gen.in {S : α → Prop} {L : List α} (u : Sub M L) (h : ∀ s, S s → s ∈ L) {x : α} (g : Gen M S x) : x ∈ L := by
  induction g with
  | one => exact u.one
  | step s _ ih => exact u.mul _ (h _ s) _ ih

/-! ### counting -/
theorem len_le [DecidableEq α] : ∀ {l m : List α}, l.Nodup → (∀ a ∈ l, a ∈ m) → l.length ≤ m.length
  | [], _, _, _ => Nat.zero_le _
  | a :: l, m, h, k => by
    have h := List.nodup_cons.mp h
    have am : a ∈ m := k a (.head _)
    have q := len_le (l := l) (m := m.erase a) h.2 fun b hb => by
      have ne : b ≠ a := fun e => h.1 (e ▸ hb)
      exact (List.mem_erase_of_ne ne).mpr (k b (.tail _ hb))
    rw [List.length_erase_of_mem am] at q
    have : 0 < m.length := List.length_pos_of_mem am
    rw [List.length_cons]
    omega
theorem nodup_map {β : Type} {f : α → β} : ∀ {l : List α}, (∀ a ∈ l, ∀ b ∈ l, f a = f b → a = b) → l.Nodup → (l.map f).Nodup
  | [], _, _ => List.nodup_nil
  | a :: l, h, n => by
    have n := List.nodup_cons.mp n
    rw [List.map_cons]
    refine List.nodup_cons.mpr ⟨fun m => ?_, nodup_map (fun a ha b hb => h a (.tail _ ha) b (.tail _ hb)) n.2⟩
    obtain ⟨b, hb, e⟩ := List.mem_map.mp m
    have e := h b (.tail _ hb) a (.head _) e
    subst e
    exact n.1 hb
theorem onto [DecidableEq α] {f : α → α} {L : List α} (n : L.Nodup) (inj : ∀ a ∈ L, ∀ b ∈ L, f a = f b → a = b) (stay : ∀ a ∈ L, f a ∈ L) {b : α} (hb : b ∈ L) : ∃ a ∈ L, f a = b := by
  by_cases c : b ∈ L.map f
  · obtain ⟨a, h, e⟩ := List.mem_map.mp c
    exact ⟨a, h, e⟩
  · have q := len_le (l := b :: L.map f) (m := L) (List.nodup_cons.mpr ⟨c, nodup_map inj n⟩) fun x hx => by
      cases hx with
      | head => exact hb
      | tail _ hx =>
        obtain ⟨a, h, e⟩ := List.mem_map.mp hx
        exact e ▸ stay a h
    rw [List.length_cons, List.length_map] at q
    omega
theorem Sub.inv [DecidableEq α] {L : List α} (u : Sub M L) (n : L.Nodup) {a : α} (ha : a ∈ L) : ∃ b ∈ L, M.mul a b = M.one ∧ M.mul b a = M.one := by
  have r : ∀ a ∈ L, ∃ b ∈ L, M.mul a b = M.one := fun a ha => onto n (fun b hb c hc e => M.canc (u.P a ha) (u.P b hb) (u.P c hc) e) (fun b hb => u.mul a ha b hb) u.one
  obtain ⟨b, hb, e1⟩ := r a ha
  obtain ⟨c, hc, e2⟩ := r b hb
  have pa := u.P a ha
  have pb := u.P b hb
  have pc := u.P c hc
  have e : a = c := by
    have z := M.assoc pa pb pc
    rw [e1, e2, M.one_mul pc, M.mul_one pa] at z
    exact z.symm
  exact ⟨b, hb, e1, by rw [e]; exact e2⟩
/-- K, with all squares of U, and m's coset -/
theorem coset [DecidableEq α] {U K : List α} (u : Sub M U) (nu : U.Nodup) (k : Sub M K) (nk : K.Nodup) (ku : ∀ x ∈ K, x ∈ U) (sq : ∀ x ∈ U, M.mul x x ∈ K) {m : α} (hm : m ∈ U) (hn : m ∉ K) :
    Sub M (K ++ K.map (M.mul m)) ∧ (K ++ K.map (M.mul m)).Nodup ∧ (∀ x ∈ K ++ K.map (M.mul m), x ∈ U) ∧ (∀ S : α → Prop, S m → (∀ x ∈ K, Gen M S x) → (∀ s, S s → M.P s) → ∀ x ∈ K ++ K.map (M.mul m), Gen M S x) := by
  obtain ⟨mi, hmi, e1, e2⟩ := u.inv nu hm
  have pm := u.P m hm
  have pi := u.P mi hmi
  -- what is moved past m stays in K
  have past : ∀ x ∈ K, ∃ y ∈ K, M.mul x m = M.mul m y := fun x hx => by
    have px := k.P x hx
    obtain ⟨xi, hxi, f1, f2⟩ := k.inv nk hx
    have pxi := k.P xi hxi
    have pix := M.pmul pi px
    have sq1 := sq _ (u.mul mi hmi x (ku x hx))
    have sq2 := k.mul xi hxi _ (sq m hm)
    refine ⟨_, k.mul _ sq1 _ sq2, ?_⟩
    -- m ((mi x)(mi x)) (xi (m m)) = x m
    have pmm := M.pmul pm pm
    have a1 : M.mul m (M.mul mi x) = x := by rw [← M.assoc pm pi px, e1, M.one_mul px]
    have a2 : M.mul x (M.mul xi (M.mul m m)) = M.mul m m := by rw [← M.assoc px pxi pmm, f1, M.one_mul pmm]
    have a3 : M.mul mi (M.mul m m) = m := by rw [← M.assoc pi pm pm, e2, M.one_mul pm]
    have pr := M.pmul pxi pmm
    rw [M.assoc pix pix pr, ← M.assoc pm pix (M.pmul pix pr), a1, M.assoc pi px pr, a2, a3]
  have inv1 : ∀ x ∈ K, ∃ y ∈ K, M.mul x y = M.one := fun x hx => by
    obtain ⟨y, hy, e, _⟩ := k.inv nk hx
    exact ⟨y, hy, e⟩
  have notm : ∀ x ∈ K, M.mul m x ∉ K := fun x hx h => by
    obtain ⟨y, hy, e⟩ := inv1 x hx
    have z := k.mul _ h _ hy
    rw [M.assoc pm (k.P x hx) (k.P y hy), e, M.mul_one pm] at z
    exact hn z
  refine ⟨⟨List.mem_append_left _ k.one, fun a ha b hb => ?_, fun a ha => ?_⟩, ?_, fun a ha => ?_, fun S sm sk sp x hx => ?_⟩
  · rcases List.mem_append.mp ha with ha | ha
    · rcases List.mem_append.mp hb with hb | hb
      · exact List.mem_append_left _ (k.mul a ha b hb)
      · obtain ⟨y, hy, e⟩ := List.mem_map.mp hb
        subst e
        obtain ⟨z, hz, e⟩ := past a ha
        refine List.mem_append_right _ (List.mem_map.mpr ⟨M.mul z y, k.mul z hz y hy, ?_⟩)
        rw [← M.assoc pm (k.P z hz) (k.P y hy), ← e, M.assoc (k.P a ha) pm (k.P y hy)]
    · obtain ⟨x, hx, e⟩ := List.mem_map.mp ha
      subst e
      have px := k.P x hx
      rcases List.mem_append.mp hb with hb | hb
      · refine List.mem_append_right _ (List.mem_map.mpr ⟨M.mul x b, k.mul x hx b hb, ?_⟩)
        rw [M.assoc pm px (k.P b hb)]
      · obtain ⟨y, hy, e⟩ := List.mem_map.mp hb
        subst e
        have py := k.P y hy
        obtain ⟨xi, hxi, f1⟩ := inv1 x hx
        have pxi := k.P xi hxi
        refine List.mem_append_left _ ?_
        have pmx := M.pmul pm px
        have e : M.mul (M.mul m x) (M.mul m y) = M.mul (M.mul (M.mul m x) (M.mul m x)) (M.mul xi y) := by
          rw [M.assoc pmx pmx (M.pmul pxi py), M.assoc pm px (M.pmul pxi py), ← M.assoc px pxi py, f1, M.one_mul py]
        rw [e]
        exact k.mul _ (sq _ (u.mul m hm x (ku x hx))) _ (k.mul xi hxi y hy)
  · rcases List.mem_append.mp ha with ha | ha
    · exact k.P a ha
    · obtain ⟨x, hx, e⟩ := List.mem_map.mp ha
      exact e ▸ M.pmul pm (k.P x hx)
  · refine List.nodup_append.mpr ⟨nk, nodup_map (fun a ha b hb e => M.canc pm (k.P a ha) (k.P b hb) e) nk, fun a ha b hb e => ?_⟩
    obtain ⟨x, hx, f⟩ := List.mem_map.mp hb
    subst f
    exact notm x hx (e ▸ ha)
  · rcases List.mem_append.mp ha with ha | ha
    · exact ku a ha
    · obtain ⟨x, hx, e⟩ := List.mem_map.mp ha
      exact e ▸ u.mul m hm x (ku x hx)
  · rcases List.mem_append.mp hx with hx | hx
    · exact sk x hx
    · obtain ⟨y, hy, e⟩ := List.mem_map.mp hx
      subst e
      exact .step sm (sk y hy)
/-! ### the list of a generated group -/
/-- L holds just what gens make, each once -/
structure Cl (M : Mon α) (gens L : List α) : Prop where
  nd : L.Nodup
  mem : ∀ x, x ∈ L ↔ Gen M (· ∈ gens) x
theorem Cl.sub {gens L : List α} (c : Cl M gens L) (h : ∀ s ∈ gens, M.P s) : Sub M L := ⟨(c.mem _).mpr .one, fun a ha b hb => (c.mem _).mpr (((c.mem _).mp ha).mul h ((c.mem _).mp hb)), fun a ha => ((c.mem _).mp ha).P h⟩
theorem Cl.gens {gens L : List α} (c : Cl M gens L) (h : ∀ s ∈ gens, M.P s) {s : α} (hs : s ∈ gens) : s ∈ L := (c.mem _).mpr (.of (h s hs) hs)
/-- one walk over the members closes -/
theorem Cl.of_walk {gens L : List α} (nd : L.Nodup) (h1 : M.one ∈ L) (hg : ∀ x ∈ L, Gen M (· ∈ gens) x) (hc : ∀ x ∈ L, ∀ s ∈ gens, M.mul s x ∈ L) : Cl M gens L := ⟨nd, fun x => ⟨hg x, fun g => by
  induction g with
  | one => exact h1
  | step s _ ih => exact hc _ ih _ s⟩⟩
theorem Cl.same {g1 g2 L1 L2 : List α} (c1 : Cl M g1 L1) (c2 : Cl M g2 L2) (p1 : ∀ s ∈ g1, M.P s) (p2 : ∀ s ∈ g2, M.P s) (h1 : ∀ s ∈ g1, s ∈ L2) (h2 : ∀ s ∈ g2, s ∈ L1) (x : α) : x ∈ L1 ↔ x ∈ L2 :=
  ⟨fun h => (c2.mem _).mpr (((c1.mem _).mp h).sub p2 fun s hs => (c2.mem _).mp (h1 s hs)), fun h => (c1.mem _).mpr (((c2.mem _).mp h).sub p1 fun s hs => (c1.mem _).mp (h2 s hs))⟩
theorem Cl.nil {L : List α} (c : Cl M [] L) : L = [M.one] := by
  have all : ∀ x ∈ L, x = M.one := fun x hx => by
    cases (c.mem x).mp hx with
    | one => rfl
    | step s _ => cases s
  have one := (c.mem _).mpr (Gen.one (M := M))
  have nd := c.nd
  cases L with
  | nil => cases one
  | cons a l =>
    cases l with
    | nil => rw [all a (.head _)]
    | cons b l =>
      have := List.nodup_cons.mp nd
      rw [all a (.head _), all b (.tail _ (.head _))] at this
      exact absurd (.head _) this.1
end
end Gp

set_option Elab.async false
set_option linter.all false
/-! Gp2: in a group of 2^b members each subgroup but the whole has a member beside it that doubles it. -/
namespace Gp

section
variable {α : Type} [DecidableEq α]
/-- an involution's fixed points are as odd as the set -/
theorem invol (n : Nat) : ∀ (X : List α) (f : α → α), X.length ≤ n → X.Nodup → (∀ x ∈ X, f x ∈ X) → (∀ x ∈ X, f (f x) = x) → (X.filter fun x => decide (f x = x)).length % 2 = X.length % 2 := by
  induction n with
  | zero =>
    intro X f hl _ _ _
    have e := List.eq_nil_of_length_eq_zero (Nat.le_zero.mp hl)
    subst e
    rfl
  | succ n ih =>
    intro X f hl nd st inv
    cases X with
    | nil => rfl
    | cons x r =>
      rw [List.length_cons] at hl
      have nd' := List.nodup_cons.mp nd
      by_cases c : f x = x
      · rw [List.filter_cons, if_pos (decide_eq_true c), List.length_cons, List.length_cons]
        have q := ih r f (by omega) nd'.2 (fun y hy => by
          rcases List.mem_cons.mp (st y (.tail _ hy)) with e | h
          · have z := inv y (.tail _ hy)
            rw [e, c] at z
            exact absurd (z ▸ hy) nd'.1
          · exact h) fun y hy => inv y (.tail _ hy)
        omega
      · have fm : f x ∈ r := by
          rcases List.mem_cons.mp (st x (.head _)) with e | h
          · exact absurd e c
          · exact h
        have ffx := inv x (.head _)
        have rl := List.length_erase_of_mem fm
        have rp := List.length_pos_of_mem fm
        have q := ih (r.erase (f x)) f (by omega) (nd'.2.erase _) (fun y hy => by
          have hy' := (nd'.2.mem_erase_iff.mp hy)
          rcases List.mem_cons.mp (st y (.tail _ hy'.2)) with e | h
          · have z := inv y (.tail _ hy'.2)
            rw [e] at z
            exact absurd z.symm hy'.1
          · refine nd'.2.mem_erase_iff.mpr ⟨fun e => ?_, h⟩
            have z := inv y (.tail _ hy'.2)
            rw [e, ffx] at z
            exact nd'.1 (z ▸ hy'.2)) fun y hy => inv y (.tail _ (nd'.2.mem_erase_iff.mp hy).2)
        have e1 : ((x :: r).filter fun x => decide (f x = x)) = r.filter fun x => decide (f x = x) := by
          rw [List.filter_cons, if_neg (by rw [decide_eq_true_eq]; exact c)]
        have e2 : ((r.erase (f x)).filter fun x => decide (f x = x)).length = (r.filter fun x => decide (f x = x)).length := by
          have sub : ∀ a, a ∈ (r.erase (f x)).filter (fun x => decide (f x = x)) ↔ a ∈ r.filter fun x => decide (f x = x) := fun a => by
            rw [List.mem_filter, List.mem_filter, nd'.2.mem_erase_iff]
            refine ⟨fun h => ⟨h.1.2, h.2⟩, fun h => ⟨⟨fun e => ?_, h.1⟩, h.2⟩⟩
            have z := of_decide_eq_true h.2
            rw [e, ffx] at z
            exact c z.symm
          exact Nat.le_antisymm (len_le ((nd'.2.erase _).filter _) fun a ha => (sub a).mp ha) (len_le (nd'.2.filter _) fun a ha => (sub a).mpr ha)
        rw [e1, List.length_cons]
        omega
theorem nodup_flat {β : Type} {f : β → List α} : ∀ {X : List β}, X.Nodup → (∀ r ∈ X, (f r).Nodup) → (∀ r ∈ X, ∀ s ∈ X, ∀ a, a ∈ f r → a ∈ f s → r = s) → (X.flatMap f).Nodup
  | [], _, _, _ => List.nodup_nil
  | r :: X, nd, h1, h2 => by
    have nd' := List.nodup_cons.mp nd
    rw [List.flatMap_cons]
    refine List.nodup_append.mpr ⟨h1 r (.head _), nodup_flat nd'.2 (fun s hs => h1 s (.tail _ hs)) (fun s hs t ht => h2 s (.tail _ hs) t (.tail _ ht)), fun a ha b hb e => ?_⟩
    subst e
    obtain ⟨s, hs, m⟩ := List.mem_flatMap.mp hb
    have e := h2 r (.head _) s (.tail _ hs) a ha m
    exact nd'.1 (e ▸ hs)
theorem len_flat {β : Type} {f : β → List α} {k : Nat} : ∀ {X : List β}, (∀ r ∈ X, (f r).length = k) → (X.flatMap f).length = X.length * k
  | [], _ => by simp
  | r :: X, h => by
    rw [List.flatMap_cons, List.length_append, h r (.head _), len_flat fun s hs => h s (.tail _ hs), List.length_cons, Nat.succ_mul]
    omega
theorem pow_part : ∀ (b : Nat) {h m : Nat}, h * m = 2 ^ b → (∃ a, h = 2 ^ a) ∧ (m = 1 ∨ m % 2 = 0)
  | 0, h, m, e => by
    have e : h * m = 1 := e
    have e1 := Nat.eq_one_of_mul_eq_one_right e
    have e2 := Nat.eq_one_of_mul_eq_one_left e
    exact ⟨⟨0, e1⟩, .inl e2⟩
  | b + 1, h, m, e => by
    rw [Nat.pow_succ] at e
    by_cases c : m % 2 = 0
    · obtain ⟨m', rfl⟩ : ∃ m', m = m' * 2 := ⟨m / 2, by omega⟩
      rw [← Nat.mul_assoc] at e
      have e' : h * m' = 2 ^ b := Nat.eq_of_mul_eq_mul_right (by decide) e
      exact ⟨(pow_part b e').1, .inr c⟩
    · have hh : h % 2 = 0 := by
        have z : (h * m) % 2 = 0 := by rw [e, Nat.mul_mod_left]
        rw [Nat.mul_mod] at z
        have c1 : m % 2 = 1 := by omega
        rw [c1] at z
        have := Nat.mod_lt h (show 0 < 2 by decide)
        omega
      obtain ⟨h', rfl⟩ : ∃ h', h = h' * 2 := ⟨h / 2, by omega⟩
      have e' : h' * m = 2 ^ b := by
        refine Nat.eq_of_mul_eq_mul_right (show 0 < 2 by decide) ?_
        rw [← e, Nat.mul_right_comm]
      obtain ⟨⟨a, ha⟩, r⟩ := pow_part b e'
      exact ⟨⟨a + 1, by rw [ha, Nat.pow_succ]⟩, r⟩
end

section
variable {α : Type} [DecidableEq α] {M : Mon α}
/-- x doubles H within G -/
structure Dm (M : Mon α) (G H : List α) (x : α) : Prop where
  g : x ∈ G
  n : x ∉ H
  sq : M.mul x x ∈ H
  nm : ∀ h ∈ H, ∃ k ∈ H, M.mul x h = M.mul k x
structure Grp (M : Mon α) (G : List α) : Prop where
  sub : Sub M G
  nd : G.Nodup
theorem Dm.past {G H : List α} {x : α} (g : Grp M G) (h : Grp M H) (hg : ∀ a ∈ H, a ∈ G) (d : Dm M G H x) : ∀ k ∈ H, ∃ y ∈ H, M.mul k x = M.mul x y := fun k hk => by
  obtain ⟨si, hsi, e1, e2⟩ := h.sub.inv h.nd d.sq
  have px := g.sub.P x d.g
  have ps := h.sub.P _ d.sq
  have psi := h.sub.P _ hsi
  have pk := h.sub.P _ hk
  have hu := h.sub.mul _ hsi _ hk
  obtain ⟨u', hu', e3⟩ := d.nm _ hu
  have pu := h.sub.P _ hu
  have pu' := h.sub.P _ hu'
  refine ⟨M.mul u' (M.mul x x), h.sub.mul _ hu' _ d.sq, ?_⟩
  -- x (u' (x x)) = x ((u' x) x) = x ((x u) x) = (x x) (u x) = s (si (k x)) = k x
  rw [← M.assoc pu' px px, ← e3, M.assoc px pu px, ← M.assoc px px (M.pmul pu px), M.assoc psi pk px, ← M.assoc ps psi (M.pmul pk px), e1, M.one_mul (M.pmul pk px)]
/-- a subgroup and the coset of a member that passes it -/
theorem coset2 {K : List α} {x : α} (k : Grp M K) (px : M.P x) (n : x ∉ K) (sq : M.mul x x ∈ K) (past : ∀ a ∈ K, ∃ y ∈ K, M.mul a x = M.mul x y) : Grp M (K ++ K.map (M.mul x)) := by
  have notm : ∀ a ∈ K, M.mul x a ∉ K := fun a ha h => by
    obtain ⟨y, hy, e, _⟩ := k.sub.inv k.nd ha
    have z := k.sub.mul _ h _ hy
    rw [M.assoc px (k.sub.P a ha) (k.sub.P y hy), e, M.mul_one px] at z
    exact n z
  refine ⟨⟨List.mem_append_left _ k.sub.one, fun a ha b hb => ?_, fun a ha => ?_⟩, ?_⟩
  · rcases List.mem_append.mp ha with ha | ha
    · rcases List.mem_append.mp hb with hb | hb
      · exact List.mem_append_left _ (k.sub.mul a ha b hb)
      · obtain ⟨y, hy, rfl⟩ := List.mem_map.mp hb
        obtain ⟨z, hz, e⟩ := past a ha
        refine List.mem_append_right _ (List.mem_map.mpr ⟨M.mul z y, k.sub.mul z hz y hy, ?_⟩)
        rw [← M.assoc px (k.sub.P z hz) (k.sub.P y hy), ← e, M.assoc (k.sub.P a ha) px (k.sub.P y hy)]
    · obtain ⟨c, hc, rfl⟩ := List.mem_map.mp ha
      have pc := k.sub.P c hc
      rcases List.mem_append.mp hb with hb | hb
      · exact List.mem_append_right _ (List.mem_map.mpr ⟨M.mul c b, k.sub.mul c hc b hb, by rw [M.assoc px pc (k.sub.P b hb)]⟩)
      · obtain ⟨y, hy, rfl⟩ := List.mem_map.mp hb
        have py := k.sub.P y hy
        obtain ⟨z, hz, e⟩ := past c hc
        have pz := k.sub.P z hz
        refine List.mem_append_left _ ?_
        have e2 : M.mul (M.mul x c) (M.mul x y) = M.mul (M.mul x x) (M.mul z y) := by
          rw [M.assoc px pc (M.pmul px py), ← M.assoc pc px py, e, M.assoc px pz py, ← M.assoc px px (M.pmul pz py)]
        rw [e2]
        exact k.sub.mul _ sq _ (k.sub.mul z hz y hy)
  · rcases List.mem_append.mp ha with ha | ha
    · exact k.sub.P a ha
    · obtain ⟨c, hc, rfl⟩ := List.mem_map.mp ha
      exact M.pmul px (k.sub.P c hc)
  · refine List.nodup_append.mpr ⟨k.nd, nodup_map (fun a ha b hb e => M.canc px (k.sub.P a ha) (k.sub.P b hb) e) k.nd, fun a ha b hb e => ?_⟩
    obtain ⟨c, hc, rfl⟩ := List.mem_map.mp hb
    exact notm c hc (e ▸ ha)

/-! ### cosets by their first members -/
def rep (M : Mon α) (G H : List α) (g : α) : α := (G.find? fun b => decide (b ∈ H.map (M.mul g))).getD g
theorem find_congr {p q : α → Bool} : ∀ {G : List α}, (∀ b ∈ G, p b = q b) → G.find? p = G.find? q
  | [], _ => rfl
  | b :: G, h => by
    rw [List.find?_cons, List.find?_cons, h b (.head _), find_congr fun c hc => h c (.tail _ hc)]
section
variable {G H : List α} (g : Grp M G) (h : Grp M H) (hg : ∀ a ∈ H, a ∈ G)
include g h hg
theorem rep_at {a : α} (ha : a ∈ G) : rep M G H a ∈ G ∧ ∃ k ∈ H, rep M G H a = M.mul a k := by
  unfold rep
  cases c : G.find? fun b => decide (b ∈ H.map (M.mul a)) with
  | none =>
    have z := List.find?_eq_none.mp c a ha
    exact absurd (decide_eq_true (List.mem_map.mpr ⟨M.one, h.sub.one, M.mul_one (g.sub.P a ha)⟩)) z
  | some b =>
    have z0 := List.find?_some c
    have z : b ∈ H.map (M.mul a) := of_decide_eq_true z0
    obtain ⟨k, hk, e⟩ := List.mem_map.mp z
    exact ⟨List.mem_of_find?_eq_some c, k, hk, e.symm⟩
theorem rep_mul {a k : α} (ha : a ∈ G) (hk : k ∈ H) : rep M G H (M.mul a k) = rep M G H a := by
  have pa := g.sub.P a ha
  have pk := h.sub.P k hk
  have same : ∀ b, b ∈ H.map (M.mul (M.mul a k)) ↔ b ∈ H.map (M.mul a) := fun b => by
    obtain ⟨ki, hki, e1, e2⟩ := h.sub.inv h.nd hk
    have pki := h.sub.P ki hki
    rw [List.mem_map, List.mem_map]
    refine ⟨fun ⟨y, hy, e⟩ => ⟨M.mul k y, h.sub.mul k hk y hy, by rw [← M.assoc pa pk (h.sub.P y hy), e]⟩, fun ⟨y, hy, e⟩ => ⟨M.mul ki y, h.sub.mul ki hki y hy, ?_⟩⟩
    have py := h.sub.P y hy
    rw [M.assoc pa pk (M.pmul pki py), ← M.assoc pk pki py, e1, M.one_mul py, e]
  unfold rep
  rw [find_congr (q := fun b => decide (b ∈ H.map (M.mul a))) fun b _ => decide_eq_decide.mpr (same b)]
  cases c : G.find? fun b => decide (b ∈ H.map (M.mul a)) with
  | none =>
    have z := List.find?_eq_none.mp c a ha
    exact absurd (decide_eq_true (List.mem_map.mpr ⟨M.one, h.sub.one, M.mul_one pa⟩)) z
  | some b => rfl
theorem rep_rep {a : α} (ha : a ∈ G) : rep M G H (rep M G H a) = rep M G H a := by
  obtain ⟨_, k, hk, e⟩ := rep_at g h hg ha
  have z := rep_mul g h hg ha hk
  rwa [← e] at z
/-- x times a coset -/
theorem rep_left {x a : α} (hx : x ∈ G) (ha : a ∈ G) : rep M G H (M.mul x (rep M G H a)) = rep M G H (M.mul x a) := by
  obtain ⟨_, k, hk, e⟩ := rep_at g h hg ha
  rw [e, ← M.assoc (g.sub.P x hx) (g.sub.P a ha) (h.sub.P k hk)]
  exact rep_mul g h hg (g.sub.mul x hx a ha) hk
theorem rep_eq {a b : α} (ha : a ∈ G) (hb : b ∈ G) (e : rep M G H a = rep M G H b) : ∃ k ∈ H, a = M.mul b k := by
  obtain ⟨_, k, hk, e1⟩ := rep_at g h hg ha
  obtain ⟨_, l, hl, e2⟩ := rep_at g h hg hb
  obtain ⟨ki, hki, f1, _⟩ := h.sub.inv h.nd hk
  have pa := g.sub.P a ha
  have pb := g.sub.P b hb
  have pk := h.sub.P k hk
  have pl := h.sub.P l hl
  have pki := h.sub.P ki hki
  refine ⟨M.mul l ki, h.sub.mul l hl ki hki, ?_⟩
  have z : M.mul (M.mul a k) ki = M.mul (M.mul b l) ki := by rw [← e1, ← e2, e]
  rw [M.assoc pa pk pki, f1, M.mul_one pa, M.assoc pb pl pki] at z
  exact z
def reps (M : Mon α) (G H : List α) : List α := G.filter fun a => decide (rep M G H a = a)
theorem mem_reps {a : α} : a ∈ reps M G H ↔ a ∈ G ∧ rep M G H a = a := by
  unfold reps
  rw [List.mem_filter, decide_eq_true_eq]
theorem rep_in {a : α} (ha : a ∈ G) : rep M G H a ∈ reps M G H := (mem_reps g h hg).mpr ⟨(rep_at g h hg ha).1, rep_rep g h hg ha⟩
theorem lagrange : G.length = (reps M G H).length * H.length := by
  have mp : ∀ r ∈ reps M G H, (H.map (M.mul r)).length = H.length := fun r _ => List.length_map ..
  rw [← len_flat mp]
  have nd : ((reps M G H).flatMap fun r => H.map (M.mul r)).Nodup := by
    refine nodup_flat (g.nd.filter _) (fun r hr => nodup_map (fun a ha b hb e => M.canc (g.sub.P r ((mem_reps g h hg).mp hr).1) (h.sub.P a ha) (h.sub.P b hb) e) h.nd) fun r hr s hs a ha hb => ?_
    obtain ⟨k, hk, e1⟩ := List.mem_map.mp ha
    obtain ⟨l, hl, e2⟩ := List.mem_map.mp hb
    have hr' := (mem_reps g h hg).mp hr
    have hs' := (mem_reps g h hg).mp hs
    have z1 := rep_mul g h hg hr'.1 hk
    have z2 := rep_mul g h hg hs'.1 hl
    rw [e1, hr'.2] at z1
    rw [e2, hs'.2] at z2
    rw [← z1, z2]
  have mem : ∀ a, a ∈ G ↔ a ∈ (reps M G H).flatMap fun r => H.map (M.mul r) := fun a => by
    rw [List.mem_flatMap]
    refine ⟨fun ha => ⟨rep M G H a, rep_in g h hg ha, ?_⟩, fun ⟨r, hr, ha⟩ => ?_⟩
    · obtain ⟨m, k, hk, e⟩ := rep_at g h hg ha
      obtain ⟨l, hl, e2⟩ := rep_eq g h hg ha m (rep_rep g h hg ha).symm
      exact List.mem_map.mpr ⟨l, hl, e2.symm⟩
    · obtain ⟨k, hk, e⟩ := List.mem_map.mp ha
      exact e ▸ g.sub.mul r ((mem_reps g h hg).mp hr).1 k (hg k hk)
  exact Nat.le_antisymm (len_le g.nd fun a ha => (mem a).mp ha) (len_le nd fun a ha => (mem a).mpr ha)
/-- the cosets that K keeps -/
def Fx (M : Mon α) (G H K : List α) : List α := (reps M G H).filter fun r => K.all fun k => decide (rep M G H (M.mul k r) = r)
theorem mem_Fx {K : List α} {r : α} : r ∈ Fx M G H K ↔ (r ∈ G ∧ rep M G H r = r) ∧ ∀ k ∈ K, rep M G H (M.mul k r) = r := by
  unfold Fx
  rw [List.mem_filter, mem_reps g h hg, List.all_eq_true]
  simp only [decide_eq_true_eq]
theorem Fx_nd {K : List α} : (Fx M G H K).Nodup := (g.nd.filter _).filter _
theorem len_same {l m : List α} (n1 : l.Nodup) (n2 : m.Nodup) (e : ∀ a, a ∈ l ↔ a ∈ m) : l.length = m.length := Nat.le_antisymm (len_le n1 fun a ha => (e a).mp ha) (len_le n2 fun a ha => (e a).mpr ha)
/-- one doubling more -/
theorem Fx_step {K : List α} (k : Grp M K) (kh : ∀ a ∈ K, a ∈ H) {x : α} (d : Dm M H K x) : (Fx M G H (K ++ K.map (M.mul x))).length % 2 = (Fx M G H K).length % 2 := by
  have xG := hg x d.g
  have px := h.sub.P x d.g
  have past := d.past h k kh
  have kG : ∀ a ∈ K, a ∈ G := fun a ha => hg a (kh a ha)
  have stay : ∀ r ∈ Fx M G H K, rep M G H (M.mul x r) ∈ Fx M G H K := fun r hr => by
    obtain ⟨⟨r1, r2⟩, r3⟩ := (mem_Fx g h hg).mp hr
    have xr := g.sub.mul x xG r r1
    refine (mem_Fx g h hg).mpr ⟨⟨(rep_at g h hg xr).1, rep_rep g h hg xr⟩, fun a ha => ?_⟩
    obtain ⟨y, hy, e⟩ := past a ha
    have pr := g.sub.P r r1
    rw [rep_left g h hg (kG a ha) xr, ← M.assoc (k.sub.P a ha) px pr, e, M.assoc px (k.sub.P y hy) pr, ← rep_left g h hg xG (g.sub.mul y (kG y hy) r r1), r3 y hy]
  have q := invol _ (Fx M G H K) (fun r => rep M G H (M.mul x r)) (Nat.le_refl _) (Fx_nd g h hg) stay fun r hr => by
    obtain ⟨⟨r1, r2⟩, r3⟩ := (mem_Fx g h hg).mp hr
    have xr := g.sub.mul x xG r r1
    show rep M G H (M.mul x (rep M G H (M.mul x r))) = r
    rw [rep_left g h hg xG xr, ← M.assoc px px (g.sub.P r r1)]
    exact r3 _ d.sq
  rw [← q]
  refine congrArg (· % 2) (len_same g h hg (Fx_nd g h hg) ((Fx_nd g h hg).filter _) fun r => ?_)
  rw [List.mem_filter, mem_Fx g h hg, mem_Fx g h hg, decide_eq_true_eq]
  refine ⟨fun ⟨h1, h2⟩ => ⟨⟨h1, fun a ha => h2 a (List.mem_append_left _ ha)⟩, ?_⟩, fun ⟨⟨h1, h2⟩, h3⟩ => ⟨h1, fun a ha => ?_⟩⟩
  · have z := h2 (M.mul x M.one) (List.mem_append_right _ (List.mem_map.mpr ⟨_, k.sub.one, rfl⟩))
    rwa [M.mul_one px] at z
  · rcases List.mem_append.mp ha with ha | ha
    · exact h2 a ha
    · obtain ⟨y, hy, rfl⟩ := List.mem_map.mp ha
      have pr := g.sub.P r h1.1
      rw [M.assoc px (k.sub.P y hy) pr, ← rep_left g h hg xG (g.sub.mul y (kG y hy) r h1.1), h2 y hy]
      exact h3
theorem Fx_all (T : ∀ K, Grp M K → (∀ a ∈ K, a ∈ H) → K.length < H.length → ∃ x, Dm M H K x) : ∀ (n : Nat) (K : List α), H.length - K.length ≤ n → Grp M K → (∀ a ∈ K, a ∈ H) → (Fx M G H K).length % 2 = (reps M G H).length % 2 → (Fx M G H H).length % 2 = (reps M G H).length % 2 := by
  intro n
  induction n with
  | zero =>
    intro K hn k kh e
    have le := len_le k.nd kh
    have all : ∀ a ∈ H, a ∈ K := fun a ha => Classical.byContradiction fun c => by
      have z := len_le (l := a :: K) (m := H) (List.nodup_cons.mpr ⟨c, k.nd⟩) fun b hb => by
        rcases List.mem_cons.mp hb with z | z
        · rw [z]; exact ha
        · exact kh b z
      rw [List.length_cons] at z
      omega
    rw [← e]
    refine congrArg (· % 2) (len_same g h hg (Fx_nd g h hg) (Fx_nd g h hg) fun r => ?_)
    rw [mem_Fx g h hg, mem_Fx g h hg]
    exact ⟨fun z => ⟨z.1, fun a ha => z.2 a (kh a ha)⟩, fun z => ⟨z.1, fun a ha => z.2 a (all a ha)⟩⟩
  | succ n ih =>
    intro K hn k kh e
    by_cases c : K.length < H.length
    · obtain ⟨x, d⟩ := T K k kh c
      have past := d.past h k kh
      have k2 := coset2 k (h.sub.P x d.g) d.n d.sq past
      have one := List.length_pos_of_mem k.sub.one
      refine ih (K ++ K.map (M.mul x)) (by rw [List.length_append, List.length_map]; omega) k2 (fun a ha => ?_) ((Fx_step g h hg k kh d).trans e)
      rcases List.mem_append.mp ha with ha | ha
      · exact kh a ha
      · obtain ⟨y, hy, rfl⟩ := List.mem_map.mp ha
        exact h.sub.mul x d.g y (kh y hy)
    · exact ih K (by omega) k kh e
end
/-- the inverse -/
def inv (M : Mon α) (G : List α) (a : α) : α := (G.find? fun b => decide (M.mul a b = M.one)).getD M.one
theorem inv_ok {G : List α} (g : Grp M G) {a : α} (ha : a ∈ G) : inv M G a ∈ G ∧ M.mul a (inv M G a) = M.one ∧ M.mul (inv M G a) a = M.one := by
  obtain ⟨b, hb, e1, e2⟩ := g.sub.inv g.nd ha
  have x : inv M G a ∈ G ∧ M.mul a (inv M G a) = M.one := by
    unfold inv
    cases c : G.find? fun b => decide (M.mul a b = M.one) with
    | none => exact absurd (decide_eq_true e1) (List.find?_eq_none.mp c b hb)
    | some d =>
      have z0 := List.find?_some c
      exact ⟨List.mem_of_find?_eq_some c, of_decide_eq_true z0⟩
  have e : inv M G a = b := M.canc (g.sub.P a ha) (g.sub.P _ x.1) (g.sub.P b hb) (x.2.trans e1.symm)
  exact ⟨x.1, x.2, by rw [e]; exact e2⟩
theorem inv_is {G : List α} (g : Grp M G) {a b : α} (ha : a ∈ G) (hb : b ∈ G) (e : M.mul a b = M.one) : inv M G a = b := M.canc (g.sub.P a ha) (g.sub.P _ (inv_ok g ha).1) (g.sub.P b hb) ((inv_ok g ha).2.1.trans e.symm)
/-- there is a doubling member -/
theorem doubling : ∀ (n : Nat) (G H : List α), G.length ≤ n → Grp M G → Grp M H → (∀ a ∈ H, a ∈ G) → (∃ b, G.length = 2 ^ b) → H.length < G.length → ∃ x, Dm M G H x := by
  intro n
  induction n with
  | zero =>
    intro G H hn g _ _ _ lt
    omega
  | succ n ih =>
    intro G H hn g h hg ⟨b, hb⟩ lt
    have lag := lagrange g h hg
    have pp := pow_part b (h := H.length) (m := (reps M G H).length) (by rw [Nat.mul_comm, ← lag, hb])
    have ev : (reps M G H).length % 2 = 0 := by
      rcases pp.2 with e | e
      · rw [e, Nat.one_mul] at lag
        omega
      · exact e
    -- H itself: by what is known of smaller groups
    have one : Grp M [M.one] := ⟨⟨.head _, fun a ha b hb => by
      rw [List.mem_singleton.mp ha, List.mem_singleton.mp hb, M.one_mul M.pone]
      exact .head _, fun a ha => by
      rw [List.mem_singleton.mp ha]
      exact M.pone⟩, List.pairwise_singleton _ _⟩
    have start : (Fx M G H [M.one]).length % 2 = (reps M G H).length % 2 := by
      refine congrArg (· % 2) (len_same g h hg (Fx_nd g h hg) (g.nd.filter _) fun r => ?_)
      rw [mem_Fx g h hg, mem_reps g h hg]
      refine ⟨fun z => z.1, fun z => ⟨z, fun a ha => ?_⟩⟩
      rw [List.mem_singleton.mp ha, M.one_mul (g.sub.P r z.1)]
      exact z.2
    have fe : (Fx M G H H).length % 2 = 0 := by
      rw [Fx_all g h hg (fun K k kh kl => ih H K (by omega) h k kh pp.1 kl) _ [M.one] (Nat.le_refl _) one (fun a ha => by rw [List.mem_singleton.mp ha]; exact h.sub.one) start]
      exact ev
    -- what a kept coset tells
    have norm : ∀ r ∈ Fx M G H H, ∀ a ∈ H, ∃ c ∈ H, M.mul c r = M.mul r a := fun r hr a ha => by
      obtain ⟨⟨r1, r2⟩, r3⟩ := (mem_Fx g h hg).mp hr
      obtain ⟨i1, i2, i3⟩ := inv_ok g r1
      have pr := g.sub.P r r1
      have pi := g.sub.P _ i1
      have f : ∀ c ∈ H, M.mul (inv M G r) (M.mul c r) ∈ H := fun c hc => by
        obtain ⟨l, hl, e⟩ := rep_eq g h hg (g.sub.mul c (hg c hc) r r1) r1 ((r3 c hc).trans r2.symm)
        rw [e, ← M.assoc pi pr (h.sub.P l hl), i3, M.one_mul (h.sub.P l hl)]
        exact hl
      obtain ⟨c, hc, e⟩ := onto (f := fun c => M.mul (inv M G r) (M.mul c r)) h.nd (fun c hc d hd e => by
        have pc := h.sub.P c hc
        have pd := h.sub.P d hd
        have z := M.canc pi (M.pmul pc pr) (M.pmul pd pr) e
        have z2 : M.mul (M.mul c r) (inv M G r) = M.mul (M.mul d r) (inv M G r) := by rw [z]
        rwa [M.assoc pc pr pi, M.assoc pd pr pi, i2, M.mul_one pc, M.mul_one pd] at z2) f ha
      refine ⟨c, hc, ?_⟩
      have e : M.mul (inv M G r) (M.mul c r) = a := e
      rw [← e, ← M.assoc pr pi (M.pmul (h.sub.P c hc) pr), i2, M.one_mul (M.pmul (h.sub.P c hc) pr)]
    have stay : ∀ r ∈ Fx M G H H, rep M G H (inv M G r) ∈ Fx M G H H := fun r hr => by
      obtain ⟨⟨r1, r2⟩, r3⟩ := (mem_Fx g h hg).mp hr
      obtain ⟨i1, i2, i3⟩ := inv_ok g r1
      have pr := g.sub.P r r1
      have pi := g.sub.P _ i1
      refine (mem_Fx g h hg).mpr ⟨⟨(rep_at g h hg i1).1, rep_rep g h hg i1⟩, fun a ha => ?_⟩
      rw [rep_left g h hg (hg a ha) i1]
      obtain ⟨c, hc, e⟩ := norm r hr a ha
      have pc := h.sub.P c hc
      have pa := h.sub.P a ha
      -- a ri = ri c
      have z : M.mul a (inv M G r) = M.mul (inv M G r) c := by
        have z1 : M.mul (inv M G r) (M.mul (M.mul c r) (inv M G r)) = M.mul (inv M G r) (M.mul (M.mul r a) (inv M G r)) := by rw [e]
        rw [M.assoc pc pr pi, i2, M.mul_one pc, M.assoc pr pa pi, ← M.assoc pi pr (M.pmul pa pi), i3, M.one_mul (M.pmul pa pi)] at z1
        exact z1.symm
      rw [z]
      exact rep_mul g h hg i1 hc
    have two : ∀ r ∈ Fx M G H H, rep M G H (inv M G (rep M G H (inv M G r))) = r := fun r hr => by
      obtain ⟨⟨r1, r2⟩, r3⟩ := (mem_Fx g h hg).mp hr
      obtain ⟨i1, i2, i3⟩ := inv_ok g r1
      have pr := g.sub.P r r1
      have pi := g.sub.P _ i1
      obtain ⟨m, k, hk, e⟩ := rep_at g h hg i1
      obtain ⟨ki, hki, f1, f2⟩ := h.sub.inv h.nd hk
      have pk := h.sub.P k hk
      have pki := h.sub.P ki hki
      have z : inv M G (rep M G H (inv M G r)) = M.mul ki r := by
        refine inv_is g m (g.sub.mul ki (hg ki hki) r r1) ?_
        rw [e, M.assoc pi pk (M.pmul pki pr), ← M.assoc pk pki pr, f1, M.one_mul pr, i3]
      rw [z]
      exact r3 ki hki
    have q := invol _ (Fx M G H H) (fun r => rep M G H (inv M G r)) (Nat.le_refl _) (Fx_nd g h hg) stay two
    rw [fe] at q
    -- the coset of the one is kept, and turned to itself
    have oneG : M.one ∈ G := g.sub.one
    have r0e : ∀ a ∈ H, rep M G H a = rep M G H M.one := fun a ha => by
      have z := rep_mul g h hg oneG ha
      rwa [M.one_mul (h.sub.P a ha)] at z
    have r0H : rep M G H M.one ∈ H := by
      obtain ⟨_, k, hk, e⟩ := rep_at g h hg oneG
      rw [e, M.one_mul (h.sub.P k hk)]
      exact hk
    have r0m : rep M G H M.one ∈ (Fx M G H H).filter fun r => decide (rep M G H (inv M G r) = r) := by
      rw [List.mem_filter, mem_Fx g h hg, decide_eq_true_eq]
      refine ⟨⟨⟨(rep_at g h hg oneG).1, rep_rep g h hg oneG⟩, fun a ha => r0e _ (h.sub.mul a ha _ r0H)⟩, ?_⟩
      obtain ⟨y, hy, e1, _⟩ := h.sub.inv h.nd r0H
      rw [inv_is g (rep_at g h hg oneG).1 (hg y hy) e1]
      exact r0e y hy
    obtain ⟨r, hr, ne⟩ : ∃ r ∈ (Fx M G H H).filter fun r => decide (rep M G H (inv M G r) = r), r ≠ rep M G H M.one := by
      refine Classical.byContradiction fun no => ?_
      have all : ∀ r ∈ (Fx M G H H).filter fun r => decide (rep M G H (inv M G r) = r), r ∈ [rep M G H M.one] := fun r hr => Classical.byContradiction fun c => no ⟨r, hr, fun e => c (by rw [e]; exact .head _)⟩
      have l1 := len_le ((Fx_nd g h hg).filter _) all
      have l2 := List.length_pos_of_mem r0m
      rw [List.length_singleton] at l1
      omega
    rw [List.mem_filter, decide_eq_true_eq] at hr
    obtain ⟨⟨r1, r2⟩, r3⟩ := (mem_Fx g h hg).mp hr.1
    obtain ⟨i1, i2, i3⟩ := inv_ok g r1
    refine ⟨r, r1, fun hrH => ne (by rw [← r0e r hrH, r2]), ?_, fun a ha => ?_⟩
    · obtain ⟨_, k, hk, e⟩ := rep_at g h hg i1
      rw [hr.2] at e
      have z : M.mul r r = k := by
        have z1 : M.mul r r = M.mul r (M.mul (inv M G r) k) := by rw [← e]
        rw [z1, ← M.assoc (g.sub.P r r1) (g.sub.P _ i1) (h.sub.P k hk), i2, M.one_mul (h.sub.P k hk)]
      rw [z]
      exact hk
    · obtain ⟨c, hc, e⟩ := norm r hr.1 a ha
      exact ⟨c, hc, e.symm⟩
end
end Gp

set_option Elab.async false
set_option linter.all false
set_option maxRecDepth 100000
/-! Pm: permutations as lists of ints; what the small language says of them. -/
namespace Pm
open PySem
open L2
open Ir
open Gp

/-! ### permutations -/
def getI (l : List Int) (i : Int) : Int := (l[i.toNat]?).getD 0
def mul (a b : List Int) : List Int := b.map (getI a)
def idl (n : Nat) : List Int := (List.range n).map fun k : Nat => (k : Int)
structure PermL (n : Nat) (l : List Int) : Prop where
  len : l.length = n
  nd : l.Nodup
  rg : ∀ x ∈ l, 0 ≤ x ∧ x < n
theorem getI_mem {l : List Int} {i : Int} (h0 : 0 ≤ i) (h1 : i < l.length) : getI l i ∈ l := by
  unfold getI
  have : i.toNat < l.length := by omega
  rw [List.getElem?_eq_getElem this]
  exact List.getElem_mem this
theorem getI_at {l : List Int} {k : Nat} (h : k < l.length) : getI l (k : Int) = l[k] := by
  unfold getI
  rw [Int.toNat_natCast, List.getElem?_eq_getElem h]
  rfl
theorem getI_inj {l : List Int} (nd : l.Nodup) {i j : Int} (h0 : 0 ≤ i) (h1 : i < l.length) (h2 : 0 ≤ j) (h3 : j < l.length) (e : getI l i = getI l j) : i = j := by
  have a : i.toNat < l.length := by omega
  have b : j.toNat < l.length := by omega
  unfold getI at e
  rw [List.getElem?_eq_getElem a, List.getElem?_eq_getElem b] at e
  have e : l[i.toNat] = l[j.toNat] := e
  have q := (List.getElem?_inj (l := l) (i := i.toNat) (j := j.toNat) a nd).mp (by rw [List.getElem?_eq_getElem a, List.getElem?_eq_getElem b, e])
  omega
theorem getI_map {l : List Int} {f : Int → Int} {i : Int} (h0 : 0 ≤ i) (h1 : i < l.length) : getI (l.map f) i = f (getI l i) := by
  unfold getI
  have a : i.toNat < l.length := by omega
  rw [List.getElem?_map, List.getElem?_eq_getElem a]
  rfl
theorem idl_len (n : Nat) : (idl n).length = n := by
  unfold idl
  rw [List.length_map, List.length_range]
theorem idl_get {n : Nat} {i : Int} (h0 : 0 ≤ i) (h1 : i < n) : getI (idl n) i = i := by
  have a : i.toNat < n := by omega
  unfold getI idl
  rw [List.getElem?_map, List.getElem?_range a]
  show ((i.toNat : Nat) : Int) = i
  omega
theorem PermL.id (n : Nat) : PermL n (idl n) := by
  refine ⟨idl_len n, nodup_map (fun a _ b _ e => by omega) List.nodup_range, fun x hx => ?_⟩
  obtain ⟨k, hk, e⟩ := List.mem_map.mp hx
  have := List.mem_range.mp hk
  omega
theorem PermL.mul {n : Nat} {a b : List Int} (ha : PermL n a) (hb : PermL n b) : PermL n (mul a b) := by
  refine ⟨by unfold Pm.mul; rw [List.length_map]; exact hb.len, nodup_map (fun x hx y hy e => ?_) hb.nd, fun x hx => ?_⟩
  · have := hb.rg x hx
    have := hb.rg y hy
    have := ha.len
    exact getI_inj ha.nd (by omega) (by omega) (by omega) (by omega) e
  · obtain ⟨y, hy, e⟩ := List.mem_map.mp hx
    subst e
    have := hb.rg y hy
    have := ha.len
    exact ha.rg _ (getI_mem (by omega) (by omega))
theorem map_inj_on {β γ : Type} {f : β → γ} : ∀ {l m : List β}, (∀ x ∈ l, ∀ y ∈ m, f x = f y → x = y) → l.map f = m.map f → l = m
  | [], [], _, _ => rfl
  | [], _ :: _, _, h => by cases h
  | _ :: _, [], _, h => by cases h
  | a :: l, b :: m, h, e => by
    rw [List.map_cons, List.map_cons] at e
    injection e with e1 e2
    rw [h a (.head _) b (.head _) e1, map_inj_on (fun x hx y hy => h x (.tail _ hx) y (.tail _ hy)) e2]
def pm (n : Nat) : Mon (List Int) where
  mul := mul
  one := idl n
  P := PermL n
  pone := PermL.id n
  pmul := PermL.mul
  assoc := fun {a b c} ha hb hc => by
    unfold mul
    rw [List.map_map]
    refine List.map_congr_left fun x hx => ?_
    have := hc.rg x hx
    have := hb.len
    exact getI_map (by omega) (by omega)
  one_mul := fun {a} ha => by
    unfold mul
    have e : a.map (getI (idl n)) = a.map _root_.id := List.map_congr_left fun x hx => by
      have := ha.rg x hx
      exact idl_get this.1 this.2
    rw [e, List.map_id]
  mul_one := fun {a} ha => by
    unfold mul idl
    rw [List.map_map]
    refine List.ext_getElem (by rw [List.length_map, List.length_range, ha.len]) fun i h1 h2 => ?_
    rw [List.getElem_map, List.getElem_range]
    exact getI_at h2
  canc := fun {a b c} ha hb hc e => by
    refine map_inj_on (fun x hx y hy e => ?_) e
    have := hb.rg x hx
    have := hc.rg y hy
    have := ha.len
    exact getI_inj ha.nd (by omega) (by omega) (by omega) (by omega) e

/-! ### order -/
theorem lex_eq : ∀ {a b : List Int}, HT.lexLt a b = false → HT.lexLt b a = false → a = b
  | [], [], _, _ => rfl
  | [], _ :: _, h, _ => by cases h
  | _ :: _, [], _, h => by cases h
  | x :: a, y :: b, h, k => by
    rw [HT.lexLt_cons] at h k
    by_cases c : x = y
    · subst c
      rw [if_pos rfl] at h k
      rw [lex_eq h k]
    · rw [if_neg c] at h
      rw [if_neg (Ne.symm c)] at k
      have := of_decide_eq_false h
      have := of_decide_eq_false k
      omega
theorem lexLe_anti {a b : List Int} (h : lexLe a b = true) (k : lexLe b a = true) : a = b := by
  unfold lexLe at h k
  exact lex_eq (not_t k) (not_t h)
abbrev Srt (l : List (List Int)) : Prop := l.Pairwise fun a b => lexLe a b = true
theorem srt_uniq : ∀ {l m : List (List Int)}, Srt l → Srt m → l.Nodup → m.Nodup → (∀ x, x ∈ l ↔ x ∈ m) → l = m
  | [], [], _, _, _, _, _ => rfl
  | [], b :: m, _, _, _, _, h => absurd ((h b).mpr (.head _)) (by simp)
  | a :: l, [], _, _, _, _, h => absurd ((h a).mp (.head _)) (by simp)
  | a :: l, b :: m, h1, h2, n1, n2, h => by
    have h1' := List.pairwise_cons.mp h1
    have h2' := List.pairwise_cons.mp h2
    have n1' := List.nodup_cons.mp n1
    have n2' := List.nodup_cons.mp n2
    have e : a = b := by
      cases (h a).mp (.head _) with
      | head => rfl
      | tail _ p =>
        cases (h b).mpr (.head _) with
        | head => rfl
        | tail _ q => exact lexLe_anti (h1'.1 b q) (h2'.1 a p)
    subst e
    rw [srt_uniq h1'.2 h2'.2 n1'.2 n2'.2 fun x => ⟨fun hx => ?_, fun hx => ?_⟩]
    · cases (h x).mp (.tail _ hx) with
      | head => exact absurd hx n1'.1
      | tail _ p => exact p
    · cases (h x).mpr (.tail _ hx) with
      | head => exact absurd hx n2'.1
      | tail _ p => exact p

/-! ### data -/
theorem encI_inj {a b : List Int} (h : encI a = encI b) : a = b := by
  have h : a.map PyData.int = b.map PyData.int := PyData.tuple.inj h
  exact map_inj_on (fun _ _ _ _ e => PyData.int.inj e) h
theorem encs_inj {a b : List (List Int)} (h : a.map encI = b.map encI) : a = b := map_inj_on (fun _ _ _ _ e => encI_inj e) h
theorem mem_enc {a : List Int} {l : List (List Int)} : encI a ∈ l.map encI ↔ a ∈ l :=
  ⟨fun h => by
    obtain ⟨b, hb, e⟩ := List.mem_map.mp h
    exact encI_inj e ▸ hb, fun h => List.mem_map_of_mem h⟩
theorem eqv_ints : ∀ (a b : List Int), PyData.eqvAll (a.map .int) (b.map .int) = decide (a = b)
  | [], [] => rfl
  | [], _ :: _ => rfl
  | _ :: _, [] => rfl
  | x :: a, y :: b => by
    show (PyData.eqv (.int x) (.int y) && PyData.eqvAll (a.map .int) (b.map .int)) = _
    rw [eqv_ints a b]
    have e : PyData.eqv (.int x) (.int y) = decide (x = y) := by
      unfold PyData.eqv
      by_cases c : x = y
      · subst c
        rw [beq_self_eq_true, decide_eq_true rfl]
      · rw [beq_eq_false_iff_ne.mpr c, decide_eq_false c]
    rw [e]
    by_cases c : x = y
    · by_cases d : a = b
      · subst c d
        simp
      · simp [c, d]
    · simp [c]
theorem eqv_enc (a b : List Int) : PyData.eqv (encI a) (encI b) = decide (a = b) := by
  show PyData.eqv (.tuple (a.map .int)) (.tuple (b.map .int)) = _
  rw [PyData.eqv]
  exact eqv_ints a b
theorem eqv_encs : ∀ (a b : List (List Int)), PyData.eqvAll (a.map encI) (b.map encI) = decide (a = b)
  | [], [] => rfl
  | [], _ :: _ => rfl
  | _ :: _, [] => rfl
  | x :: a, y :: b => by
    show (PyData.eqv (encI x) (encI y) && PyData.eqvAll (a.map encI) (b.map encI)) = _
    rw [eqv_encs a b, eqv_enc]
    by_cases c : x = y
    · by_cases d : a = b
      · subst c d
        simp
      · simp [c, d]
    · simp [c]
theorem eqv_tt (a b : List (List Int)) : PyData.eqv (.tuple (a.map encI)) (.tuple (b.map encI)) = decide (a = b) := by
  rw [PyData.eqv]
  exact eqv_encs a b
theorem any_enc (a : List Int) (l : List (List Int)) : ((l.map encI).any fun z => PyData.eqv z (encI a)) = decide (a ∈ l) := by
  induction l with
  | nil => simp
  | cons b l ih =>
    rw [List.map_cons, List.any_cons, ih, eqv_enc]
    by_cases c : a = b
    · subst c
      simp
    · by_cases d : a ∈ l
      · simp [d]
      · simp [c, d, Ne.symm c]
theorem lay_ints : ∀ l : List Int, PyData.canLayAll0 (l.map .int) = true
  | [] => rfl
  | x :: l => by
    show (PyData.canLay0 (.int x) && PyData.canLayAll0 (l.map .int)) = true
    rw [lay_ints l]
    rfl
theorem lay_encs : ∀ l : List (List Int), PyData.canLayAll0 (l.map encI) = true
  | [] => rfl
  | x :: l => by
    show (PyData.canLay0 (encI x) && PyData.canLayAll0 (l.map encI)) = true
    rw [lay_encs l, Bool.and_true]
    show PyData.canLay0 (.tuple (x.map .int)) = true
    unfold PyData.canLay0
    exact lay_ints x
/-! keys of a dict -/
theorem look_keys (kvs : List (D × D)) (k : D) : (lookD kvs k).isSome = true ↔ k ∈ kvs.map (·.1) := by
  induction kvs with
  | nil => simp [look_nil]
  | cons e kvs ih =>
    obtain ⟨j, v⟩ := e
    by_cases c : j = k
    · subst c
      rw [look_pos]
      simp
    · rw [look_neg c, ih]
      simp [Ne.symm c]
theorem put_keys (kvs : List (D × D)) (k v : D) (x : D) : x ∈ (putD kvs k v).map (·.1) ↔ x = k ∨ x ∈ kvs.map (·.1) := by
  by_cases c : ∃ e ∈ kvs, e.1 = k
  · rw [put_old c]
    have e : (kvs.map fun e => @ite _ (e.1 = k) (Classical.propDecidable _) (e.1, v) e).map (·.1) = kvs.map (·.1) := by
      rw [List.map_map]
      refine List.map_congr_left fun e _ => ?_
      show (@ite _ (e.1 = k) (Classical.propDecidable _) (e.1, v) e).1 = e.1
      split <;> rfl
    rw [e]
    obtain ⟨e, he, h⟩ := c
    exact ⟨.inr, fun h' => h'.elim (fun q => q ▸ h ▸ List.mem_map_of_mem he) _root_.id⟩
  · rw [put_new c, List.map_append, List.mem_append]
    simp [or_comm]
theorem key_enc (a : List Int) : keyOk true (encI a) = true := by
  show (a.map PyData.int).all isKey = true
  rw [List.all_map]
  exact List.all_eq_true.mpr fun _ _ => rfl
end Pm

set_option Elab.async false
set_option linter.all false
set_option maxRecDepth 100000
set_option maxHeartbeats 4000000
/-! Kb: what more than one law's proof wants. Taken out of the k48 texts by kb.py. -/
namespace Kb
open PySem
open L2
open Ir
open Gp
open Pm
abbrev Lli := List (List Int)
def fin (R : Post) : En := { nx := fun _ => R (.cl, .none), rt := R, bk := fun _ => False, ct := fun _ => False }
def Ans (Γ : List Spc) (n m : Nat) (ir : Ss) (S : Spc) : Prop := ∀ as R, S as R → as.length = n ∧ W Γ ir (start0 m as) (fin R)
theorem ite3 {c : Prop} [Decidable c] {A B : Prop} (h1 : c → A) (h2 : ¬ c → B) : if decide c = true then A else B := by
  by_cases h : c
  · rw [if_pos (decide_eq_true h)]
    exact h1 h
  · rw [if_neg (by rw [decide_eq_true_eq]; exact h)]
    exact h2 h
theorem ite4 {c : Prop} [Decidable c] {A B : Prop} (h1 : ¬ c → A) (h2 : c → B) : if (!decide c) = true then A else B := by
  by_cases h : c
  · rw [if_neg (by rw [decide_eq_true h]; decide)]
    exact h2 h
  · rw [if_pos (by rw [decide_eq_false h]; decide)]
    exact h1 h
theorem small {n : Nat} (h : n ≤ 10000000) : n ≤ sizeLine := Nat.le_trans h (by decide)
theorem small' {n : Nat} (h : n ≤ 10000000) : n < sizeLine := Nat.lt_of_le_of_lt h (by decide)
theorem s1 : 1 ≤ sizeLine := by decide
theorem s2 : 2 ≤ sizeLine := by decide
theorem s0 : 0 ≤ sizeLine := by decide
theorem at_nat {ds : List D} {k : Nat} {d : D} (h : ds[k]? = some d) : atI ds (k : Int) = some d := atI_nat h
theorem lc_all {C : D → (Bool → Prop) → Prop} {F : D → Post → Prop} {Q : Post} (f : D → D) (hC : ∀ d P, P true → C d P) : ∀ (ds acc : List D), acc.length + ds.length ≤ sizeLine →
    (∀ d ∈ ds, ∀ P : Post, (∀ r, toCl r = some (f d) → P r) → F d P) → Q (.fr, .list (acc ++ ds.map f)) → lcW C F Q ds acc
  | [], acc, _, _, q => by simpa [lcW] using q
  | d :: ds, acc, hl, hF, q => by
    rw [List.length_cons] at hl
    refine ⟨by omega, hC _ _ ?_⟩
    rw [if_pos rfl]
    refine hF d (.head _) _ fun r hr => ⟨f d, hr, lc_all f hC ds (acc ++ [f d]) ?_ (fun d' h => hF d' (.tail _ h)) ?_⟩
    · rw [List.length_append, List.length_singleton]
      omega
    · rw [List.append_assoc]
      exact q
def S_identity : Spc := fun as R => ∃ n : Nat, as = [.cl (.int n)] ∧ n ≤ 1000 ∧ R (.cl, encI (idl n))
def S_compose : Spc := fun as R => ∃ a b : List Int, as = [.cl (encI a), .cl (encI b)] ∧ (∀ e ∈ b, 0 ≤ e ∧ e < a.length) ∧ b.length ≤ 1000 ∧ R (.cl, encI (mul a b))
theorem at_enc {a : List Int} {e : Int} (h0 : 0 ≤ e) (h1 : e < a.length) : atI (a.map PyData.int) e = some (.int (getI a e)) := by
  have z : ((e.toNat : Nat) : Int) = e := by omega
  rw [← z]
  refine at_nat ?_
  have : e.toNat < a.length := by omega
  rw [List.getElem?_map, List.getElem?_eq_getElem this]
  show some (PyData.int a[e.toNat]) = some (.int (getI a (e.toNat : Nat)))
  rw [getI_at this]
def unI : D → Int
  | .int n => n
  | _ => 0
theorem comp_go {a b : List Int} (h : ∀ e ∈ b, 0 ≤ e ∧ e < a.length) (hb : b.length ≤ 1000) {C : D → (Bool → Prop) → Prop} (hC : ∀ d P, P true → C d P) {F : D → Post → Prop} (hF : ∀ (e : Int) (P : Post), 0 ≤ e → e < a.length → P (.cl, .int (getI a e)) → F (.int e) P) {Q : Post}
    (q : Q (.fr, .list ((mul a b).map .int))) : lcW C F Q (b.map .int) [] := by
  refine lc_all (fun d => .int (getI a (unI d))) hC _ _ (small (by rw [List.length_map]; show 0 + b.length ≤ _; omega)) (fun d hd P hP => ?_) ?_
  · obtain ⟨e, he, rfl⟩ := List.mem_map.mp hd
    obtain ⟨h0, h1⟩ := h e he
    exact hF e P h0 h1 (hP _ rfl)
  · have e : ([] : List D) ++ (b.map PyData.int).map (fun d => PyData.int (getI a (unI d))) = (mul a b).map PyData.int := by
      unfold mul
      rw [List.nil_append, List.map_map, List.map_map]
      rfl
    rw [e]
    exact q
structure In0 (n : Nat) (gens L : Lli) (kvs : List (D × D)) : Prop where
  nd : L.Nodup
  one : idl n ∈ L
  gen : ∀ x ∈ L, Gen (pm n) (· ∈ gens) x
  keys : kvs.map (·.1) = L.map encI
theorem In0.look {n : Nat} {gens L : Lli} {kvs : List (D × D)} (h : In0 n gens L kvs) (y : List Int) : (lookD kvs (encI y)).isSome = decide (y ∈ L) := by
  have e : (lookD kvs (encI y)).isSome = true ↔ y ∈ L := by
    rw [look_keys, h.keys]
    exact mem_enc
  by_cases c : y ∈ L
  · rw [e.mpr c, decide_eq_true c]
  · rw [decide_eq_false c]
    cases z : (lookD kvs (encI y)).isSome with
    | false => rfl
    | true => exact absurd (e.mp z) c
theorem In0.len {n : Nat} {gens L : Lli} {kvs : List (D × D)} (h : In0 n gens L kvs) : kvs.length = L.length := by
  have e := congrArg List.length h.keys
  rwa [List.length_map, List.length_map] at e
theorem put_fresh {L : Lli} {kvs : List (D × D)} (h : kvs.map (·.1) = L.map encI) {y : List Int} {v : D} (n : y ∉ L) : (putD kvs (encI y) v).map (·.1) = (L ++ [y]).map encI := by
  rw [put_new (fun ⟨e, he, z⟩ => n (mem_enc.mp (by rw [← h, ← z]; exact List.mem_map_of_mem he))), List.map_append, List.map_append, h]
  rfl
theorem In0.add {n : Nat} {gens L : Lli} {kvs : List (D × D)} (h : In0 n gens L kvs) {g x : List Int} {v : D} (hg : g ∈ gens) (hx : x ∈ L) (hn : mul g x ∉ L) : In0 n gens (L ++ [mul g x]) (putD kvs (encI (mul g x)) v) :=
  ⟨List.nodup_append.mpr ⟨h.nd, List.pairwise_singleton _ _, fun a ha b hb e => hn (by
      rw [List.mem_singleton.mp hb] at e
      exact e ▸ ha)⟩, List.mem_append_left _ h.one, fun y hy => by
    rcases List.mem_append.mp hy with hy | hy
    · exact h.gen y hy
    · rw [List.mem_singleton.mp hy]
      exact .step hg (h.gen x hx), put_fresh h.keys hn⟩
theorem In0.start (n : Nat) (gens : Lli) (v : D) : In0 n gens [idl n] [(encI (idl n), v)] := ⟨List.pairwise_singleton _ _, .head _, fun x hx => by
  rw [List.mem_singleton.mp hx]
  exact .one, rfl⟩
theorem In0.P {n : Nat} {gens L : Lli} {kvs : List (D × D)} (h : In0 n gens L kvs) (hg : ∀ g ∈ gens, PermL n g) {x : List Int} (hx : x ∈ L) : PermL n x := (h.gen x hx).P (M := pm n) hg
def Done (gens L : Lli) (k : Nat) : Prop := ∀ (i : Nat) (x : List Int), i < k → L[i]? = some x → ∀ g ∈ gens, mul g x ∈ L
theorem Done.cl {n : Nat} {gens L : Lli} {kvs : List (D × D)} (h : In0 n gens L kvs) {k : Nat} (d : Done gens L k) (hk : L.length ≤ k) : Cl (pm n) gens L :=
  .of_walk h.nd h.one h.gen fun x hx g hg => by
    obtain ⟨i, hi, e⟩ := List.mem_iff_getElem.mp hx
    exact d i x (by omega) (by rw [List.getElem?_eq_getElem hi, e]) g hg
structure In1 (n : Nat) (gens L : Lli) (k : Nat) (x : List Int) (j : Nat) (L' : Lli) (kvs : List (D × D)) : Prop where
  i : In0 n gens L' kvs
  pre : L'.take L.length = L
  old : Done gens L' k
  at' : L'[k]? = some x
  now : ∀ g ∈ gens.take j, mul g x ∈ L'
theorem In1.start {n : Nat} {gens L : Lli} {kvs : List (D × D)} (h : In0 n gens L kvs) {k : Nat} (d : Done gens L k) {x : List Int} (hx : L[k]? = some x) : In1 n gens L k x 0 L kvs := ⟨h, List.take_length, d, hx, fun g hg => by simp at hg⟩
theorem Done.app {gens L : Lli} {k : Nat} {y : List Int} (d : Done gens L k) (hk : k ≤ L.length) : Done gens (L ++ [y]) k := fun i x hi hx g hg => by
  rw [List.getElem?_append_left (by omega)] at hx
  exact List.mem_append_left _ (d i x hi hx g hg)
theorem take_step {α : Type} {l : List α} {j : Nat} {a : α} (h : l[j]? = some a) : ∀ b ∈ l.take (j + 1), b ∈ l.take j ∨ b = a := fun b hb => by
  rw [List.take_add_one, h] at hb
  rcases List.mem_append.mp hb with hb | hb
  · exact .inl hb
  · exact .inr (by simpa using hb)
theorem In1.skip {n : Nat} {gens L L' : Lli} {kvs : List (D × D)} {k j : Nat} {x g : List Int} (h : In1 n gens L k x j L' kvs) (hg : gens[j]? = some g) (hm : mul g x ∈ L') : In1 n gens L k x (j + 1) L' kvs :=
  ⟨h.i, h.pre, h.old, h.at', fun g' hg' => (take_step hg g' hg').elim (h.now g') fun e => e ▸ hm⟩
theorem In1.add {n : Nat} {gens L L' : Lli} {kvs : List (D × D)} {k j : Nat} {x g : List Int} {v : D} (h : In1 n gens L k x j L' kvs) (hl : L.length ≤ L'.length) (hg : gens[j]? = some g) (hm : mul g x ∉ L') : In1 n gens L k x (j + 1) (L' ++ [mul g x]) (putD kvs (encI (mul g x)) v) := by
  have hk := (List.getElem?_eq_some_iff.mp h.at').1
  refine ⟨h.i.add (List.mem_of_getElem? hg) (List.mem_of_getElem? h.at') hm, ?_, h.old.app (by omega), ?_, fun g' hg' => ?_⟩
  · rw [List.take_append_of_le_length hl]
    exact h.pre
  · rw [List.getElem?_append_left hk]
    exact h.at'
  · rcases take_step hg g' hg' with z | z
    · exact List.mem_append_left _ (h.now g' z)
    · subst z
      exact List.mem_append_right _ (.head _)
theorem In1.done {n : Nat} {gens L L' : Lli} {kvs : List (D × D)} {k : Nat} {x : List Int} (h : In1 n gens L k x gens.length L' kvs) : Done gens L' (k + 1) := fun i y hi hy g hg => by
  by_cases c : i < k
  · exact h.old i y c hy g hg
  · have e : i = k := by omega
    subst e
    rw [h.at'] at hy
    cases hy
    exact h.now g (by rw [List.take_length]; exact hg)
theorem In1.le {n : Nat} {gens L L' : Lli} {kvs : List (D × D)} {k j : Nat} {x : List Int} (h : In1 n gens L k x j L' kvs) : L.length ≤ L'.length := by
  have e := congrArg List.length h.pre
  rw [List.length_take] at e
  omega
def S_closure : Spc := fun as R => ∃ (n : Nat) (gens U : Lli), as = [.cl (.int n), .sh (gens.map encI)] ∧ n ≤ 1000 ∧ (∀ g ∈ gens, PermL n g) ∧ (∀ x, Gen (pm n) (· ∈ gens) x → x ∈ U) ∧ U.length ≤ 1000 ∧ ∀ L, Cl (pm n) gens L → R (.fr, .list (L.map encI))
theorem enc_at {L : Lli} {k : Nat} {x : List Int} (h : L[k]? = some x) : (L.map encI)[k]? = some (encI x) := by
  rw [List.getElem?_map, h]
  rfl
theorem enc_of {L : Lli} {k : Nat} {d : D} (h : (L.map encI)[k]? = some d) : ∃ x, L[k]? = some x ∧ d = encI x := by
  rw [List.getElem?_map] at h
  cases e : L[k]? with
  | none =>
    rw [e] at h
    cases h
  | some x =>
    rw [e] at h
    exact ⟨x, rfl, (Option.some.inj h).symm⟩
theorem dc_all {K V : D → Post → Prop} {Q : List (D × D) → Prop} (hK : ∀ (x : List Int) (P : Post), P (.cl, encI x) → K (encI x) P) (hV : ∀ (d : D) (P : Post), P (.cl, .bool true) → V d P) : ∀ (L acc : Lli) (kvs : List (D × D)), (acc ++ L).Nodup → acc.length + L.length ≤ 1000000 →
    kvs.map (·.1) = acc.map encI → (∀ kvs' : List (D × D), kvs'.map (·.1) = (acc ++ L).map encI → Q kvs') → dcW K V true Q (L.map encI) kvs
  | [], acc, kvs, _, _, hk, q => q kvs (by rw [List.append_nil]; exact hk)
  | x :: L, acc, kvs, nd, hl, hk, q => by
    have kl : kvs.length = acc.length := by
      have e := congrArg List.length hk
      rwa [List.length_map, List.length_map] at e
    rw [List.length_cons] at hl
    refine ⟨small' (by omega), hK x _ ⟨rfl, key_enc x, hV _ _ ⟨_, rfl, ?_⟩⟩⟩
    have nx : x ∉ acc := fun h => by
      have := (List.nodup_append.mp nd).2.2 x h x (.head _)
      exact this rfl
    refine dc_all hK hV L (acc ++ [x]) _ (by rw [List.append_assoc]; exact nd) (by rw [List.length_append, List.length_singleton]; omega) (put_fresh hk nx) fun kvs' h => q kvs' (by rw [List.append_assoc] at h; exact h)
theorem look_iff {L : Lli} {kvs : List (D × D)} (h : kvs.map (·.1) = L.map encI) (y : List Int) : (lookD kvs (encI y)).isSome = decide (y ∈ L) := by
  have e : (lookD kvs (encI y)).isSome = true ↔ y ∈ L := by
    rw [look_keys, h]
    exact mem_enc
  by_cases c : y ∈ L
  · rw [e.mpr c, decide_eq_true c]
  · rw [decide_eq_false c]
    cases z : (lookD kvs (encI y)).isSome with
    | false => rfl
    | true => exact absurd (e.mp z) c
def S_generated : Spc := fun as R => ∃ (n : Nat) (gens U : Lli), as = [.cl (.int n), .sh (gens.map encI)] ∧ 1 ≤ n ∧ n ≤ 1000 ∧ gens.length ≤ 1000000 ∧ (∀ g ∈ gens, PermL n g) ∧ (∀ x, Gen (pm n) (· ∈ gens) x → x ∈ U) ∧ U.length ≤ 1000 ∧
  ∀ L, Srt L → Cl (pm n) gens L → R (.cl, .tuple (L.map encI))
theorem cl_one (n : Nat) : Cl (pm n) [] [idl n] := .of_walk (List.pairwise_singleton _ _) (.head _) (fun x hx => by
  rw [List.mem_singleton.mp hx]
  exact .one) fun x _ s hs => nomatch hs
theorem Cl.perm {n : Nat} {gens L ms : Lli} (c : Cl (pm n) gens L) (p : ms.Perm L) : Cl (pm n) gens ms := ⟨p.nodup_iff.mpr c.nd, fun x => p.mem_iff.trans (c.mem x)⟩
def encL (x : List Int) : D := .list (x.map .int)
def itD (t : Bool) (x : List Int) : D := if t = true then encI x else encL x
def wholeD (t : Bool) (U : Lli) : D := if t = true then .tuple (U.map encI) else .list (U.map encL)
def S_square_group : Spc := fun as R => ∃ (n : Nat) (T U : Lli), as = [.cl (.tuple (T.map encI))] ∧ T ≠ [] ∧ 1 ≤ n ∧ n ≤ 1000 ∧ T.length ≤ 1000 ∧ (∀ x ∈ T, PermL n x) ∧ (∀ x, Gen (pm n) (· ∈ T.map fun x => mul x x) x → x ∈ U) ∧ U.length ≤ 1000 ∧
  ∀ L, Srt L → Cl (pm n) (T.map fun x => mul x x) L → R (.cl, .tuple (L.map encI))
def unT : D → List Int
  | .tuple ds => ds.map unI
  | _ => []
theorem un_enc (x : List Int) : unT (encI x) = x := by
  show (x.map PyData.int).map unI = x
  rw [List.map_map]
  exact (List.map_congr_left fun _ _ => rfl).trans (List.map_id _)
def dueS (p : Lli × Lli) (m : List Int) : Lli × Lli := if m ∈ p.2 then p else (p.1 ++ [m], p.2 ++ p.2.map (mul m))
def dueF (U : Lli) (p : Lli × Lli) : Lli × Lli := U.foldl dueS p
structure DueI (n : Nat) (U B kept K : Lli) : Prop where
  sub : Sub (pm n) K
  nd : K.Nodup
  le : ∀ x ∈ K, x ∈ U
  sq : ∀ x ∈ U, mul x x ∈ K
  gen : ∀ x ∈ K, Gen (pm n) (· ∈ B ++ kept) x
  has : ∀ s ∈ B ++ kept, s ∈ K
  kle : kept.length ≤ K.length
theorem DueI.start {n : Nat} {U B : Lli} (b : Sub (pm n) B) (nb : B.Nodup) (h : ∀ x ∈ B, x ∈ U) (sq : ∀ x ∈ U, mul x x ∈ B) : DueI n U B [] B := ⟨b, nb, h, sq, fun x hx => .of (M := pm n) (b.P x hx) (by rw [List.append_nil]; exact hx), fun s hs => by rwa [List.append_nil] at hs, Nat.zero_le _⟩
theorem DueI.step {n : Nat} {U B : Lli} {p : Lli × Lli} (u : Sub (pm n) U) (nu : U.Nodup) (h : DueI n U B p.1 p.2) {m : List Int} (hm : m ∈ U) : DueI n U B (dueS p m).1 (dueS p m).2 := by
  unfold dueS
  by_cases c : m ∈ p.2
  · rw [if_pos c]
    exact h
  · rw [if_neg c]
    obtain ⟨h1, h2, h3, h4⟩ := coset (M := pm n) u nu h.sub h.nd h.le h.sq hm c
    have has' : ∀ s ∈ B ++ (p.1 ++ [m]), s ∈ p.2 ++ p.2.map (mul m) := fun s hs => by
      rw [← List.append_assoc] at hs
      rcases List.mem_append.mp hs with hs | hs
      · exact List.mem_append_left _ (h.has s hs)
      · rw [List.mem_singleton.mp hs]
        refine List.mem_append_right _ (List.mem_map.mpr ⟨idl n, h.sub.one, ?_⟩)
        exact (pm n).mul_one (u.P m hm)
    refine ⟨h1, h2, h3, fun x hx => List.mem_append_left _ (h.sq x hx), h4 (· ∈ B ++ (p.1 ++ [m])) (List.mem_append_right _ (List.mem_append_right _ (.head _))) (fun x hx => (h.gen x hx).mono fun s hs => ?_) fun s hs => h1.P s (has' s hs), has', ?_⟩
    · rcases List.mem_append.mp hs with hs | hs
      · exact List.mem_append_left _ hs
      · exact List.mem_append_right _ (List.mem_append_left _ hs)
    · have one := List.length_pos_of_mem h.sub.one
      have := h.kle
      rw [List.length_append, List.length_append, List.length_map, List.length_singleton]
      omega
theorem dueF_step {U : Lli} {p : Lli × Lli} {j : Nat} {m : List Int} (h : U[j]? = some m) : dueF (U.take (j + 1)) p = dueS (dueF (U.take j) p) m := by
  unfold dueF
  rw [List.take_add_one, h, List.foldl_append]
  rfl
theorem DueI.at {n : Nat} {U B : Lli} (u : Sub (pm n) U) (nu : U.Nodup) (b : DueI n U B [] B) : ∀ j, j ≤ U.length → DueI n U B (dueF (U.take j) ([], B)).1 (dueF (U.take j) ([], B)).2
  | 0, _ => b
  | j + 1, h => by
    have q := DueI.at u nu b j (by omega)
    rw [dueF_step (List.getElem?_eq_getElem (show j < U.length by omega))]
    exact q.step u nu (List.getElem_mem _)
theorem dueS_has (p : Lli × Lli) (m x : List Int) (h : x ∈ p.2) : x ∈ (dueS p m).2 := by
  unfold dueS
  by_cases c : m ∈ p.2
  · rw [if_pos c]
    exact h
  · rw [if_neg c]
    exact List.mem_append_left _ h
theorem due_all {n : Nat} {U B : Lli} (u : Sub (pm n) U) (nu : U.Nodup) (b : DueI n U B [] B) : ∀ j, j ≤ U.length → ∀ x ∈ U.take j, x ∈ (dueF (U.take j) ([], B)).2
  | 0, _, x, hx => by simp at hx
  | j + 1, h, x, hx => by
    have e := List.getElem?_eq_getElem (show j < U.length by omega)
    have d := DueI.at u nu b j (by omega)
    rw [dueF_step e]
    rcases take_step e x hx with z | z
    · exact dueS_has _ _ _ (due_all u nu b j (by omega) x z)
    · have dx := (d.step u nu (List.getElem_mem (show j < U.length by omega))).has
      rw [z]
      by_cases c : U[j] ∈ (dueF (U.take j) ([], B)).2
      · exact dueS_has _ _ _ c
      · refine dx _ (List.mem_append_right _ ?_)
        unfold dueS
        rw [if_neg c]
        exact List.mem_append_right _ (.head _)
structure Pair (n : Nat) (U B : Lli) : Prop where
  n1 : 1 ≤ n
  n2 : n ≤ 1000
  u : Sub (pm n) U
  nu : U.Nodup
  ul : U.length ≤ 1000
  b : DueI n U B [] B
theorem Pair.bl {n : Nat} {U B : Lli} (p : Pair n U B) : B.length ≤ 1000 := Nat.le_trans (len_le p.b.nd p.b.le) p.ul
theorem Pair.at {n : Nat} {U B : Lli} (p : Pair n U B) {j : Nat} (h : j ≤ U.length) : DueI n U B (dueF (U.take j) ([], B)).1 (dueF (U.take j) ([], B)).2 := DueI.at p.u p.nu p.b j h
def S_rung : Spc := fun as R => ∃ (t : Bool) (n : Nat) (U B : Lli), as = [.cl (wholeD t U), .cl (wholeD t B)] ∧ Pair n U B ∧ R (.cl, .tuple ((dueF U ([], B)).1.map encI))
theorem lc_allE {C : D → (Bool → Prop) → Prop} {F : D → Post → Prop} {Q : Post} (f : D → D) (out : List D) {ds acc : List D} (he : acc ++ ds.map f = out) (hC : ∀ d P, P true → C d P) (hl : acc.length + ds.length ≤ sizeLine)
    (hF : ∀ d ∈ ds, ∀ P : Post, (∀ r, toCl r = some (f d) → P r) → F d P) (q : Q (.fr, .list out)) : lcW C F Q ds acc := lc_all f hC ds acc hl hF (he ▸ q)
theorem whole_of (t : Bool) {U : Lli} {Q : Kd → List D → Prop} (h : Q .cl (U.map (itD t))) : ofQ Q (.cl, wholeD t U) := by
  cases t
  · exact h
  · exact h
theorem it_at {t : Bool} {L : Lli} {k : Nat} {d : D} (h : (L.map (itD t))[k]? = some d) : ∃ x, L[k]? = some x ∧ d = itD t x := by
  rw [List.getElem?_map] at h
  cases e : L[k]? with
  | none =>
    rw [e] at h
    cases h
  | some x =>
    rw [e] at h
    exact ⟨x, rfl, (Option.some.inj h).symm⟩
theorem tup_it (t : Bool) (x : List Int) {Q : Post} (h : Q (.cl, encI x)) : bi .tuple [(.cl, itD t x)] Q := by
  cases t
  · exact h
  · exact h
def unD : D → List Int
  | .tuple ds => ds.map unI
  | .list ds => ds.map unI
  | _ => []
theorem un_ints (x : List Int) : (x.map PyData.int).map unI = x := by
  rw [List.map_map]
  exact (List.map_congr_left fun _ _ => rfl).trans (List.map_id _)
theorem un_it (t : Bool) (x : List Int) : unD (itD t x) = x := by
  cases t
  · exact un_ints x
  · exact un_ints x
theorem base_it (t : Bool) (B : Lli) : ([] : List D) ++ (B.map (itD t)).map (fun d => encI (unD d)) = B.map encI := by
  rw [List.nil_append, List.map_map]
  refine List.map_congr_left fun x _ => ?_
  show encI (unD (itD t x)) = encI x
  rw [un_it]
def S_lclosed : Spc := fun as R => ∃ (n : Nat) (gens : Lli), as = [.cl (.int n), .sh (gens.map encI)] ∧ n ≤ 1000 ∧ (∀ g ∈ gens, PermL n g) ∧
  (∀ L, Cl (pm n) gens L → L.length ≤ 128 → R (.fr, .list (L.map encI))) ∧ ((∀ U : Lli, (∀ x, Gen (pm n) (· ∈ gens) x → x ∈ U) → 128 < U.length) → R (.cl, .none))
theorem rng_id (n : Nat) : (List.range (n : Int).toNat).map (fun k : Nat => PyData.int (k : Int)) = (idl n).map .int := by
  rw [Int.toNat_natCast]
  unfold idl
  rw [List.map_map]
  rfl
theorem map_same {l : List D} : l.map (fun d => d) = l := List.map_id l
structure Nc (a b : Nat) (d : D) : Prop where
  lay : PyData.canLay0 d = true
  dp : PyData.depth d ≤ a
  ls : PyData.leavesShort 13 d = true
  sh : PyData.showable d = true
  bk : PyData.bulk d ≤ b
  nd : PyData.hasDict d = false
theorem Nc.int {i : Int} (h : i.natAbs < 10 ^ 12) : Nc 0 0 (.int i) := by
  refine ⟨rfl, by simp [PyData.depth], ?_, ?_, by simp [PyData.bulk], by simp [PyData.hasDict]⟩
  · simp only [PyData.leavesShort, decide_eq_true_eq]
    exact PyData.shown_int_le h
  · simp only [PyData.showable, decide_eq_true_eq]
    have h1 : i.natAbs < 2 ^ 40 := Nat.lt_of_lt_of_le h (by decide)
    by_cases z : i.natAbs = 0
    · rw [z]
      decide
    · have := (Nat.log2_lt z).mpr h1
      omega
theorem all_nc {a b : Nat} : ∀ {ds : List D}, (∀ d ∈ ds, Nc a b d) → PyData.canLayAll0 ds = true ∧ PyData.depthAll ds ≤ a ∧ PyData.leavesShortAll 13 ds = true ∧ PyData.showableAll ds = true ∧ PyData.bulkAll ds ≤ ds.length * (b + 1) ∧ PyData.hasDictAll ds = false
  | [], _ => ⟨rfl, by simp [PyData.depthAll], by simp [PyData.leavesShortAll], by simp [PyData.showableAll], by simp [PyData.bulkAll], by simp [PyData.hasDictAll]⟩
  | d :: ds, h => by
    obtain ⟨h1, h2, h3, h4, h5, h6⟩ := all_nc fun x hx => h x (.tail _ hx)
    have n := h d (.head _)
    refine ⟨by simp [PyData.canLayAll0, n.lay, h1], by simp only [PyData.depthAll]; have := n.dp; omega, by simp [PyData.leavesShortAll, n.ls, h3], by simp [PyData.showableAll, n.sh, h4], ?_, by simp [PyData.hasDictAll, n.nd, h6]⟩
    simp only [PyData.bulkAll, List.length_cons]
    have := n.bk
    rw [Nat.succ_mul]
    omega
theorem Nc.tup {a b m : Nat} {ds : List D} (h : ∀ d ∈ ds, Nc a b d) (hm : ds.length ≤ m) : Nc (a + 1) (m * (b + 1)) (.tuple ds) := by
  obtain ⟨h1, h2, h3, h4, h5, h6⟩ := all_nc h
  refine ⟨by simp [PyData.canLay0, h1], by simp only [PyData.depth]; omega, by simp [PyData.leavesShort, h3], by simp [PyData.showable, h4], ?_, by simp [PyData.hasDict, h6]⟩
  simp only [PyData.bulk]
  exact Nat.le_trans h5 (Nat.mul_le_mul_right _ hm)
theorem Nc.lst {a b m : Nat} {ds : List D} (h : ∀ d ∈ ds, Nc a b d) (hm : ds.length ≤ m) : Nc (a + 1) (m * (b + 1)) (.list ds) := by
  obtain ⟨h1, h2, h3, h4, h5, h6⟩ := all_nc h
  refine ⟨by simp [PyData.canLay0, h1], by simp only [PyData.depth]; omega, by simp [PyData.leavesShort, h3], by simp [PyData.showable, h4], ?_, by simp [PyData.hasDict, h6]⟩
  simp only [PyData.bulk]
  exact Nat.le_trans h5 (Nat.mul_le_mul_right _ hm)
theorem Nc.shaped {a b : Nat} {d : D} (h : Nc a b d) (ha : a ≤ 64) : SeqAt.shaped d = true := by
  unfold SeqAt.shaped
  rw [h.lay, decide_eq_true (Nat.le_trans h.dp ha)]
  rfl
def Small (x : List Int) : Prop := ∀ e ∈ x, e.natAbs < 10 ^ 12
theorem nc_ints {x : List Int} {m : Nat} (h : Small x) (hm : x.length ≤ m) : ∀ d ∈ x.map PyData.int, Nc 0 0 d := fun d hd => by
  obtain ⟨e, he, rfl⟩ := List.mem_map.mp hd
  exact .int (h e he)
theorem nc_enc {x : List Int} {m : Nat} (h : Small x) (hm : x.length ≤ m) : Nc 1 m (encI x) := by
  have q := Nc.tup (nc_ints h hm) (show (x.map PyData.int).length ≤ m by rw [List.length_map]; exact hm)
  rwa [Nat.mul_one] at q
theorem nc_encL {x : List Int} {m : Nat} (h : Small x) (hm : x.length ≤ m) : Nc 1 m (encL x) := by
  have q := Nc.lst (nc_ints h hm) (show (x.map PyData.int).length ≤ m by rw [List.length_map]; exact hm)
  rwa [Nat.mul_one] at q
theorem PermL.small {n : Nat} {x : List Int} (p : PermL n x) (hn : n ≤ 1000) : Small x := fun e he => by
  have := p.rg e he
  omega
theorem nc_it {t : Bool} {n : Nat} {x : List Int} (p : PermL n x) (hn : n ≤ 1000) : Nc 1 n (itD t x) := by
  cases t
  · exact nc_encL (PermL.small p hn) (Nat.le_of_eq p.len)
  · exact nc_enc (PermL.small p hn) (Nat.le_of_eq p.len)
theorem nc_whole {t : Bool} {n m : Nat} {U : Lli} (p : ∀ x ∈ U, PermL n x) (hn : n ≤ 1000) (hm : U.length ≤ m) : Nc 2 (m * (n + 1)) (wholeD t U) := by
  cases t
  · exact Nc.lst (fun d hd => by
      obtain ⟨x, hx, rfl⟩ := List.mem_map.mp hd
      exact nc_it (t := false) (p x hx) hn) (by rw [List.length_map]; exact hm)
  · exact Nc.tup (fun d hd => by
      obtain ⟨x, hx, rfl⟩ := List.mem_map.mp hd
      exact nc_it (t := true) (p x hx) hn) (by rw [List.length_map]; exact hm)
theorem nc_list {n m : Nat} {U : Lli} (p : ∀ x ∈ U, PermL n x) (hn : n ≤ 1000) (hm : U.length ≤ m) : Nc 2 (m * (n + 1)) (.list (U.map encI)) := Nc.lst (fun d hd => by
  obtain ⟨x, hx, rfl⟩ := List.mem_map.mp hd
  exact nc_it (t := true) (p x hx) hn) (by rw [List.length_map]; exact hm)
def S_same : Spc := fun as R => ∃ d : D, as = [.cl d, .cl d] ∧ Nc 4 (2 ^ 20) d ∧ PyProof.Rows.isDisplay d = true ∧ R (.cl, .bool true)
def S_lists : Spc := fun as R => ∃ U : Lli, as = [.cl (.list (U.map encI))] ∧ U.length ≤ 1000 ∧ R (.fr, .list (U.map encL))
def S_right : Spc := fun as R => ∃ (n : Nat) (A : Lli), as = [.cl (.tuple (A.map encI)), .cl (.tuple (A.map encI))] ∧ n ≤ 1000 ∧ A.length ≤ 1000 ∧ (∀ x ∈ A, PermL n x) ∧ R (.cl, .bool true)
theorem range_at {m k : Nat} {d : D} (h : ((List.range (m : Int).toNat).map fun k : Nat => PyData.int (k : Int))[k]? = some d) : k < m ∧ d = .int k := by
  rw [Int.toNat_natCast, List.getElem?_map] at h
  cases c : (List.range m)[k]? with
  | none =>
    rw [c] at h
    cases h
  | some y =>
    rw [c] at h
    have z := (List.getElem?_eq_some_iff.mp c).1
    rw [List.length_range] at z
    rw [List.getElem?_range z] at c
    cases c
    exact ⟨z, (Option.some.inj h).symm⟩
def S_ldue : Spc := fun as R => ∃ (n : Nat) (U B : Lli), as = [.cl (.list (U.map encI)), .cl (.list (B.map encI))] ∧ Pair n U B ∧ R (.cl, .tuple ((dueF U ([], B)).1.map encI))
theorem ne_any {L : Lli} {g : List Int} : (!(L.map encI).any fun z => PyData.eqv z (encI g)) = !decide (g ∈ L) := by rw [any_enc]
def S_ltable : Spc := fun as R => ∃ (n : Nat) (gens U : Lli), as = [.cl (.int n), .sh (gens.map encI)] ∧ 1 ≤ n ∧ n ≤ 1000 ∧ gens.length ≤ 1000 ∧ (∀ g ∈ gens, PermL n g) ∧ (∀ x, Gen (pm n) (· ∈ gens) x → x ∈ U) ∧ U.length ≤ 128 ∧
  ∀ L, Srt L → Cl (pm n) gens L → L.length ≤ 128 → R (.fr, .list (L.map encI))
def S_cell : Spc := fun as R => ∃ (ns : List Int) (k : Int), as = [.sc ns, .cl (.int k)] ∧ 0 ≤ k ∧ ∀ c : Int, R (.cl, .int c)
theorem mulL {i j : Int} (h0 : 0 ≤ i) (h1 : i < 2 ^ 64) : MulOk i j := .inl (.inl ⟨by omega, h1⟩)
theorem mulR {i j : Int} (h0 : 0 ≤ j) (h1 : j < 2 ^ 64) : MulOk i j := .inl (.inr ⟨by omega, h1⟩)
def Dg (sz ds : List Int) : Prop := ds.length = sz.length ∧ ∀ (i : Nat) (s d : Int), sz[i]? = some s → ds[i]? = some d → 0 ≤ d ∧ d < s
theorem Dg.nil : Dg [] [] := ⟨rfl, fun i s d h => by simp at h⟩
theorem Dg.snoc {sz ds : List Int} {j : Nat} {s d : Int} (h : Dg (sz.take j) ds) (e : sz[j]? = some s) (h0 : 0 ≤ d) (h1 : d < s) : Dg (sz.take (j + 1)) (ds ++ [d]) := by
  have lt := (List.getElem?_eq_some_iff.mp e).1
  have l : ds.length = j := by
    rw [h.1, List.length_take]
    omega
  rw [List.take_add_one, e]
  refine ⟨by rw [List.length_append, List.length_append, h.1]; rfl, fun i s' d' h2 h3 => ?_⟩
  by_cases c : i < j
  · rw [List.getElem?_append_left (by rw [List.length_take]; omega)] at h2
    rw [List.getElem?_append_left (by omega)] at h3
    exact h.2 i s' d' h2 h3
  · have lt3 := (List.getElem?_eq_some_iff.mp h3).1
    rw [List.length_append, List.length_singleton] at lt3
    have ei : i = j := by omega
    subst ei
    rw [List.getElem?_append_right (by rw [List.length_take]; omega), List.length_take, Nat.min_eq_left (by omega), Nat.sub_self] at h2
    rw [List.getElem?_append_right (by omega), l, Nat.sub_self] at h3
    cases h2
    cases h3
    exact ⟨h0, h1⟩
theorem ints_at {l : List Int} {k : Nat} {d : D} (h : (l.map PyData.int)[k]? = some d) : ∃ x, l[k]? = some x ∧ d = .int x := by
  rw [List.getElem?_map] at h
  cases e : l[k]? with
  | none =>
    rw [e] at h
    cases h
  | some x =>
    rw [e] at h
    exact ⟨x, rfl, (Option.some.inj h).symm⟩
theorem ints_get {l : List Int} {k : Nat} {x : Int} (h : l[k]? = some x) : (l.map PyData.int)[k]? = some (.int x) := by
  rw [List.getElem?_map, h]
  rfl
def S_digits : Spc := fun as R => ∃ (c : Int) (sz : List Int), as = [.cl (.int c), .sh (sz.map .int)] ∧ sz.length ≤ 1000 ∧ (∀ s ∈ sz, 0 < s ∧ s < 2 ^ 20) ∧ ∀ ds, Dg sz ds → R (.fr, .list (ds.map .int))
theorem div_ok {i s : Int} (h0 : 0 < s) (h1 : s < 2 ^ 20) : CDivW i s := by
  refine ⟨h0, ?_⟩
  have h2 : s.natAbs < 2 ^ 20 := by omega
  have := (Nat.log2_lt (by omega : s.natAbs ≠ 0)).mpr h2
  omega
def S_gcd : Spc := fun as R => ∃ (a b : Nat), as = [.cl (.int a), .cl (.int b)] ∧ R (.cl, .int (Nat.gcd a b))
theorem ite2' {c : Prop} [Decidable c] {A B : Prop} {b : Bool} (hb : b = !decide c) (h1 : ¬ c → A) (h2 : c → B) : if b = true then A else B := by
  subst hb
  exact ite4 h1 h2
theorem abs_nat (a : Nat) : (if (a : Int) < 0 then -(a : Int) else a) = (a : Int) := if_neg (by omega)
theorem mem_idl {n : Nat} {e : Int} (h0 : 0 ≤ e) (h1 : e < n) : e ∈ idl n := List.mem_map.mpr ⟨e.toNat, List.mem_range.mpr (by omega), by omega⟩
theorem perm_all {n : Nat} {l : List Int} (p : PermL n l) {e : Int} (h0 : 0 ≤ e) (h1 : e < n) : e ∈ l := by
  refine Classical.byContradiction fun c => ?_
  have q := len_le (l := e :: l) (m := idl n) (List.nodup_cons.mpr ⟨c, p.nd⟩) fun x hx => by
    cases hx with
    | head => exact mem_idl h0 h1
    | tail _ hx => exact mem_idl (p.rg x hx).1 (p.rg x hx).2
  rw [List.length_cons, p.len, idl_len] at q
  omega
theorem perm_of {n : Nat} {l m : List Int} (p : PermL n l) (h : m.Perm l) : PermL n m := ⟨by rw [h.length_eq]; exact p.len, h.nodup_iff.mpr p.nd, fun x hx => p.rg x (h.mem_iff.mp hx)⟩
theorem erase_perm {α : Type} {x : α} : ∀ {l : List α} {k : Nat}, l[k]? = some x → (x :: l.eraseIdx k).Perm l
  | [], _, h => by simp at h
  | a :: l, 0, h => by
    cases h
    exact .refl _
  | a :: l, k + 1, h => by
    have h : l[k]? = some x := h
    show (x :: a :: l.eraseIdx k).Perm (a :: l)
    exact (List.Perm.swap a x _).trans ((erase_perm h).cons a)
theorem erase_map {α β : Type} (f : α → β) : ∀ (l : List α) (k : Nat), (l.map f).eraseIdx k = (l.eraseIdx k).map f
  | [], _ => rfl
  | _ :: _, 0 => rfl
  | a :: l, k + 1 => by
    show f a :: (l.map f).eraseIdx k = f a :: (l.eraseIdx k).map f
    rw [erase_map f l k]
theorem seq_ok {i : Int} {n : Nat} (h0 : 0 ≤ i) (h1 : i < n) : seqIndex? i n = some i.toNat := by
  unfold seqIndex?
  simp only [if_neg (show ¬ i < 0 by omega)]
  rw [if_pos]
  rw [decide_eq_true h0, decide_eq_true h1]
  rfl
def S_shuf : Spc := fun as R => ∃ (c : Int) (n : Nat), as = [.cl (.int c), .cl (.int n)] ∧ n ≤ 1000 ∧ ∀ p, PermL n p → R (.cl, encI p)
theorem lc_idl {C : D → (Bool → Prop) → Prop} {F : D → Post → Prop} {Q : Post} (f : Int → Int) (n : Nat) (out : List Int) (ho : (idl n).map f = out) (hn : n ≤ 1000) (hC : ∀ d P, P true → C d P) (hF : ∀ (k : Nat) (P : Post), k < n → P (.cl, .int (f k)) → F (.int k) P)
    (q : Q (.fr, .list (out.map .int))) : lcW C F Q ((List.range (n : Int).toNat).map fun k : Nat => PyData.int (k : Int)) [] := by
  rw [rng_id]
  refine lc_allE (fun d => .int (f (unI d))) (out.map .int) ?_ hC (small (by rw [List.length_map, idl_len]; show 0 + n ≤ _; omega)) (fun d hd P hP => ?_) q
  · rw [← ho, List.nil_append, List.map_map, List.map_map]
    rfl
  · obtain ⟨e, he, rfl⟩ := List.mem_map.mp hd
    obtain ⟨k, hk, rfl⟩ := List.mem_map.mp he
    exact hF k P (List.mem_range.mp hk) (hP _ rfl)
theorem idl_at {n k : Nat} (h : k < n) : (idl n)[k]? = some (k : Int) := by
  unfold idl
  rw [List.getElem?_map, List.getElem?_range h]
  rfl
def bitsN : Nat → List (List Int)
  | 0 => [[]]
  | k + 1 => (bitsN k).flatMap fun l => [0 :: l, 1 :: l]
theorem mem_bits : ∀ ds : List Int, (∀ d ∈ ds, d = 0 ∨ d = 1) → ds ∈ bitsN ds.length
  | [], _ => .head _
  | d :: ds, h => by
    refine List.mem_flatMap.mpr ⟨ds, mem_bits ds fun x hx => h x (.tail _ hx), ?_⟩
    rcases h d (.head _) with e | e <;> rw [e] <;> simp
def b7 : List Int := [2, 2, 2, 2, 2, 2, 2]
theorem dg_b7 {ds : List Int} (h : Dg b7 ds) : ds ∈ bitsN 7 := by
  have l := h.1
  have m := mem_bits ds fun d hd => by
    obtain ⟨i, hi, e⟩ := List.mem_iff_getElem.mp hd
    have lt : i < 7 := by
      have : b7.length = 7 := rfl
      omega
    have e2 : b7[i]? = some 2 := by
      have all : ∀ i, i < 7 → b7[i]? = some 2 := by decide
      exact all i lt
    obtain ⟨h0, h1⟩ := h.2 i 2 d e2 (by rw [List.getElem?_eq_getElem hi, e])
    omega
  rw [l] at m
  exact m
def permB (n : Nat) (l : List Int) : Bool := decide (l.length = n) && decide l.Nodup && l.all fun x => decide (0 ≤ x) && decide (x < n)
theorem permB_ok {n : Nat} {l : List Int} (h : permB n l = true) : PermL n l := by
  unfold permB at h
  simp only [Bool.and_eq_true, decide_eq_true_eq, List.all_eq_true] at h
  exact ⟨h.1.1, h.1.2, h.2⟩
def pl (b : List Int) (k : Int) : Int := (k / 4 + getI b 0) % 2 * 4 + (k / 2 + getI b (1 + k / 4)) % 2 * 2 + (k + getI b (3 + k / 2)) % 2
theorem tree_ok : ∀ b ∈ bitsN 7, permB 8 ((idl 8).map (pl b)) = true := by decide +kernel
def exF (ds : List Int) : List Int := ds.foldl (fun acc b => (acc ++ [(acc.length : Int) + b]) ++ [((acc ++ [(acc.length : Int) + b]).length : Int) - b]) []
theorem exch_ok : ∀ b ∈ bitsN 7, permB 14 (exF b) = true := by decide +kernel
def S_tree : Spc := fun as R => ∃ c : Int, as = [.cl (.int c)] ∧ ∀ p, PermL 8 p → R (.cl, encI p)
theorem b7_ok : ∀ s ∈ b7, 0 < s ∧ s < 2 ^ 20 := by decide
def S_exch : Spc := fun as R => ∃ c : Int, as = [.cl (.int c)] ∧ ∀ p, PermL 14 p → R (.cl, encI p)
theorem nodup_of {l : List Int} (h : ∀ (i j : Nat) (hi : i < l.length) (hj : j < l.length), l[i] = l[j] → i = j) : l.Nodup := List.pairwise_iff_getElem.mpr fun i j hi hj lt e => by
  have := h i j hi hj e
  omega
theorem emod_inj {b x y : Int} (h0 : 0 ≤ x) (h1 : x < b) (h2 : 0 ≤ y) (h3 : y < b) (t : Int) (e : (x + t) % b = (y + t) % b) : x = y := by
  have z := Int.dvd_of_emod_eq_zero (Int.emod_eq_emod_iff_emod_sub_eq_zero.mp e)
  obtain ⟨q, hq⟩ := z
  have e2 : x - y = b * q := by omega
  have hb : 0 < b := by omega
  rcases Int.lt_trichotomy q 0 with c | c | c
  · have : b * q ≤ b * (-1) := Int.mul_le_mul_of_nonneg_left (by omega) (by omega)
    omega
  · subst c
    omega
  · have : b * 1 ≤ b * q := Int.mul_le_mul_of_nonneg_left (by omega) (by omega)
    omega
def turned (m : Nat) (b t : Int) (i : Nat) : List Int := (idl i).map fun p => (m : Int) + (p + t) % b
theorem turned_ok {m : Nat} {l : List Int} {b t : Int} (h : PermL m l) (hb : 0 < b) : PermL (m + b.toNat) (l ++ turned m b t b.toNat) := by
  have eb : ((b.toNat : Nat) : Int) = b := Int.toNat_of_nonneg (by omega)
  refine ⟨by unfold turned; rw [List.length_append, List.length_map, idl_len, h.len], List.nodup_append.mpr ⟨h.nd, nodup_map (fun x hx y hy e => ?_) (PermL.id _).nd, fun x hx y hy e => ?_⟩, fun x hx => ?_⟩
  · have rx := (PermL.id _).rg x hx
    have ry := (PermL.id _).rg y hy
    rw [eb] at rx ry
    have e : (m : Int) + (x + t) % b = (m : Int) + (y + t) % b := e
    exact emod_inj rx.1 rx.2 ry.1 ry.2 t (by omega)
  · obtain ⟨z, _, rfl⟩ := List.mem_map.mp hy
    have := h.rg x hx
    have := Int.emod_nonneg (z + t) (show b ≠ 0 by omega)
    omega
  · rcases List.mem_append.mp hx with hx | hx
    · have := h.rg x hx
      omega
    · obtain ⟨z, _, rfl⟩ := List.mem_map.mp hx
      have := Int.emod_nonneg (z + t) (show b ≠ 0 by omega)
      have := Int.emod_lt_of_pos (z + t) hb
      omega
def natSum (bl : List Int) : Nat := bl.foldr (fun b s => b.toNat + s) 0
theorem natSum_take {bl : List Int} {j : Nat} {b : Int} (h : bl[j]? = some b) : natSum (bl.take (j + 1)) = natSum (bl.take j) + b.toNat := by
  have app : ∀ l m : List Int, natSum (l ++ m) = natSum l + natSum m := fun l m => by
    induction l with
    | nil => simp [natSum]
    | cons a l ih =>
      show a.toNat + natSum (l ++ m) = a.toNat + natSum l + natSum m
      omega
  rw [List.take_add_one, h, app]
  rfl
def S_rot : Spc := fun as R => ∃ (c : Int) (bl : List Int), as = [.cl (.int c), .cl (.list (bl.map .int))] ∧ bl.length ≤ 100 ∧ (∀ b ∈ bl, 0 < b ∧ b ≤ 1000) ∧ ∀ p, PermL (natSum bl) p → R (.cl, encI p)
theorem natSum_le {bl : List Int} (h : ∀ b ∈ bl, 0 < b ∧ b ≤ 1000) : natSum bl ≤ 1000 * bl.length := by
  induction bl with
  | nil => exact Nat.le_refl _
  | cons a l ih =>
    have := ih fun b hb => h b (.tail _ hb)
    have := h a (.head _)
    show a.toNat + natSum l ≤ 1000 * (l.length + 1)
    omega
def aff (n u b : Nat) : List Int := (idl n).map fun k => ((u : Int) * k + b) % n
theorem aff_ok {n u : Nat} (b : Nat) (hn : 0 < n) (h : Nat.gcd u n = 1) : PermL n (aff n u b) := by
  refine ⟨by unfold aff; rw [List.length_map, idl_len], nodup_map (fun x hx y hy e => ?_) (PermL.id n).nd, fun x hx => ?_⟩
  · have rx := (PermL.id n).rg x hx
    have ry := (PermL.id n).rg y hy
    have z := Int.dvd_of_emod_eq_zero (Int.emod_eq_emod_iff_emod_sub_eq_zero.mp e)
    have z2 : (n : Int) ∣ (u : Int) * (x - y) := by
      rw [Int.mul_sub]
      have e3 : (u : Int) * x + b - ((u : Int) * y + b) = (u : Int) * x - (u : Int) * y := by omega
      rwa [e3] at z
    have z3 : n ∣ u * (x - y).natAbs := by
      have := Int.natAbs_dvd_natAbs.mpr z2
      rwa [Int.natAbs_mul, Int.natAbs_natCast, Int.natAbs_natCast] at this
    have cop : Nat.Coprime n u := by
      rw [Nat.coprime_iff_gcd_eq_one, Nat.gcd_comm]
      exact h
    have z4 := cop.dvd_of_dvd_mul_left z3
    rcases Nat.eq_zero_or_pos (x - y).natAbs with c | c
    · omega
    · have := Nat.le_of_dvd c z4
      omega
  · obtain ⟨k, _, rfl⟩ := List.mem_map.mp hx
    exact ⟨Int.emod_nonneg _ (by omega), Int.emod_lt_of_pos _ (by omega)⟩
def S_aff : Spc := fun as R => ∃ (c : Int) (n : Nat), as = [.cl (.int c), .cl (.int n)] ∧ 2 ≤ n ∧ n ≤ 1000 ∧ ∀ p, PermL n p → R (.cl, encI p)
def S_renum : Spc := fun as R => ∃ (n : Nat) (one names : List Int), as = [.cl (encI one), .cl (encI names)] ∧ n ≤ 1000 ∧ PermL n one ∧ PermL n names ∧ ∀ p, PermL n p → R (.cl, encI p)
theorem getI_set {l : List Int} {k : Nat} {v : Int} {i : Int} (h0 : 0 ≤ i) (h1 : i < l.length) : getI (l.set k v) i = if i = k then v else getI l i := by
  unfold getI
  by_cases c : i = k
  · rw [if_pos c, show i.toNat = k by omega, List.getElem?_set_self (by omega)]
    rfl
  · rw [if_neg c, List.getElem?_set_ne (by omega)]
structure KindOk (kd : Int) (n : Nat) (bl : List Int) : Prop where
  n1 : 1 ≤ n
  n2 : n ≤ 64
  bl1 : bl.length ≤ 100
  bl2 : ∀ b ∈ bl, 0 < b ∧ b ≤ 1000
  kd : kd = 0 ∨ (kd = 1 ∧ n = 8) ∨ (kd = 2 ∧ n = natSum bl) ∨ (kd = 3 ∧ 2 ≤ n) ∨ (kd = 4 ∧ n = 14)
def S_cand : Spc := fun as R => ∃ (kd c : Int) (n : Nat) (bl : List Int), as = [.cl (.int kd), .cl (.int c), .cl (.int n), .cl (.list (bl.map .int))] ∧ KindOk kd n bl ∧ ∀ p, PermL n p → R (.cl, encI p)
def ssDrop : Nat → Ss → Ss
  | 0, s => s
  | n + 1, .cons _ s => ssDrop n s
  | _ + 1, .nil => .nil
def S_drawn : Spc := fun as R => ∃ ns : List Int, as = [.sc ns] ∧ ∀ (n : Nat) (L : Lli), 1 ≤ n → n ≤ 64 → L.length ≤ 10 → (∀ p ∈ L, PermL n p) → R (.fr, .list [.int n, .list (L.map encI)])
theorem cut_map {α β : Type} (f : α → β) (xs : List α) (lo hi : Option Int) : cutG (xs.map f) lo hi = (cutG xs lo hi).map f := by
  unfold cutG
  rw [List.length_map, List.map_take, List.map_drop]
theorem sl_go {ds out : List D} {lo hi : Option Int} {Q : Post} {k : Kd} (e : cutG ds lo hi = out) (q : Q (.fr, .list out)) : opSl (k, .list ds) lo hi Q := by
  subst e
  exact q
theorem cut_first (xs : List Int) (h : Nat) : cutG xs none (some (h : Int)) = xs.take h := by
  unfold cutG
  rw [HT.sIx_none, HT.sIx_nat, List.drop_zero, Nat.sub_zero]
  by_cases c : h ≤ xs.length
  · rw [Nat.min_eq_left c]
  · rw [Nat.min_eq_right (by omega), List.take_length, List.take_of_length_le (by omega)]
theorem Nc.mono {a b a' b' : Nat} {d : D} (h : Nc a b d) (ha : a ≤ a') (hb : b ≤ b') : Nc a' b' d := ⟨h.lay, Nat.le_trans h.dp ha, h.ls, h.sh, Nat.le_trans h.bk hb, h.nd⟩
theorem two : 2 ≤ sizeLine := by decide
theorem lc_ex {C : D → (Bool → Prop) → Prop} {F : D → Post → Prop} {Q : Post} {Pr : List Int → Prop} (hC : ∀ d P, P true → C d P) : ∀ (ds : List D) (acc : Lli), acc.length + ds.length ≤ 1000000 → (∀ x ∈ acc, Pr x) → (∀ d ∈ ds, ∃ x, Pr x ∧ ∀ P : Post, P (.cl, encI x) → F d P) →
    (∀ L : Lli, (∀ x ∈ L, Pr x) → L.length = acc.length + ds.length → Q (.fr, .list (L.map encI))) → lcW C F Q ds (acc.map encI)
  | [], acc, _, ha, _, q => q acc ha (by simp)
  | d :: ds, acc, hl, ha, hF, q => by
    rw [List.length_cons] at hl
    obtain ⟨x, px, hx⟩ := hF d (.head _)
    refine ⟨small' (by rw [List.length_map]; omega), hC _ _ ?_⟩
    rw [if_pos rfl]
    refine hx _ ⟨_, rfl, ?_⟩
    have e : acc.map encI ++ [encI x] = (acc ++ [x]).map encI := by rw [List.map_append]; rfl
    rw [e]
    refine lc_ex hC ds (acc ++ [x]) (by rw [List.length_append, List.length_singleton]; omega) (fun y hy => (List.mem_append.mp hy).elim (ha y) fun h => by
      rw [List.mem_singleton.mp h]
      exact px) (fun d' h => hF d' (.tail _ h)) fun L h1 h2 => q L h1 (by rw [h2, List.length_append, List.length_singleton, List.length_cons]; omega)
structure Ask (n : Nat) (U B : Lli) : Prop where
  p : Pair n U B
  n64 : n ≤ 64
  ul : U.length ≤ 128
  srt : Srt U
theorem Ask.due {n : Nat} {U B : Lli} (a : Ask n U B) : DueI n U B (dueF U ([], B)).1 (dueF U ([], B)).2 := by
  have q := a.p.at (j := U.length) (Nat.le_refl _)
  rwa [List.take_length] at q
theorem Ask.bl {n : Nat} {U B : Lli} (a : Ask n U B) : B.length ≤ 128 := Nat.le_trans (len_le a.p.b.nd a.p.b.le) a.ul
theorem Ask.dl {n : Nat} {U B : Lli} (a : Ask n U B) : (dueF U ([], B)).1.length ≤ 128 := Nat.le_trans a.due.kle (Nat.le_trans (len_le a.due.nd a.due.le) a.ul)
theorem Ask.dP {n : Nat} {U B : Lli} (a : Ask n U B) : ∀ x ∈ (dueF U ([], B)).1, PermL n x := fun x hx => a.due.sub.P x (a.due.has x (List.mem_append_right _ hx))
theorem Ask.whole {n : Nat} {U B L : Lli} (a : Ask n U B) (s : Srt L) (c : Cl (pm n) (B ++ (dueF U ([], B)).1) L) : L = U := by
  refine srt_uniq s a.srt c.nd a.p.nu fun x => ?_
  rw [c.mem]
  refine ⟨fun g => a.due.le x (g.in a.due.sub a.due.has), fun hx => a.due.gen x ?_⟩
  have q := due_all a.p.u a.p.nu a.p.b U.length (Nat.le_refl _) x (by rw [List.take_length]; exact hx)
  rwa [List.take_length] at q
theorem same_nc {t : Bool} {n : Nat} {U B : Lli} (a : Ask n U B) : Nc 4 (2 ^ 20) (.list [wholeD t U, wholeD t B]) := by
  have n64 := a.n64
  have h1 : Nc 2 (128 * (64 + 1)) (wholeD t U) := (nc_whole a.p.u.P (by omega) a.ul).mono (Nat.le_refl _) (Nat.mul_le_mul_left _ (by omega))
  have h2 : Nc 2 (128 * (64 + 1)) (wholeD t B) := (nc_whole a.p.b.sub.P (by omega) a.bl).mono (Nat.le_refl _) (Nat.mul_le_mul_left _ (by omega))
  exact (Nc.lst (m := 2) (fun d hd => by
    cases hd with
    | head => exact h1
    | tail _ hd =>
      cases hd with
      | head => exact h2
      | tail _ hd => cases hd) (Nat.le_refl _)).mono (by decide) (by decide)
end Kb

set_option Elab.async false
set_option linter.all false
set_option maxRecDepth 100000
set_option maxHeartbeats 4000000
namespace K45
open PySem
open L2
open PySem.Spec
open Ir
def fns : List Str := [Str.ofString "frozen", Str.ofString "identity", Str.ofString "compose", Str.ofString "inverse", Str.ofString "closure", Str.ofString "generated", Str.ofString "stabilizer", Str.ofString "doubling_member", Str.ofString "halving_steps", Str.ofString "halving_chain", Str.ofString "_law_whole", Str.ofString "_law_cell", Str.ofString "_law_digits", Str.ofString "_law_gcd", Str.ofString "_law_compose", Str.ofString "_law_closed", Str.ofString "_law_accepted", Str.ofString "_law_shuffled", Str.ofString "_law_layers", Str.ofString "_law_turns", Str.ofString "_law_affine", Str.ofString "_law_signed", Str.ofString "_law_regular", Str.ofString "_law_renumbered", Str.ofString "_law_drawn", Str.ofString "_law_same", Str.ofString "_law_handed", Str.ofString "_law_left", Str.ofString "_law_added", Str.ofString "_law_chain", Str.ofString "_law_is_tables", Str.ofString "_law_asks", Str.ofString "law"]
def topS (i : Nat) : Stmt := PySem.Challenge.pw_leastnest_k45_halving_chain_whole.main.body.getD i (.Pass ⟨0, 0, 0, 0⟩)
abbrev s_frozen : Stmt := topS 1
def t_frozen : Tb := ⟨["value", "item"], fns⟩
theorem sc_frozen : FnScope t_frozen.N ["value"] (defScope s_frozen) := ⟨rfl, rfl, rfl, by decide +kernel, rfl, by decide +kernel, by decide +kernel⟩
def ir_frozen : Ss :=
  (.cons (.iff (.tru (.isi (.var 0) [.list, .tuple]))
    (.cons (.ret (.blt .tuple (.cons (.lc 1 (.of (.var 0)) .nil (.call 0 (.cons (.var 1) .nil))) .nil)))
    .nil)
    .nil)
  (.cons (.ret (.var 0))
  .nil))
theorem b_frozen {X : Cx} {k : Nat} {Γ : List Spc} (g : Gd t_frozen k Γ (defScope s_frozen) X) (fn : X.fn = fun _ => true) (L : Γ.length = 1) : PSs X (defBody s_frozen) (rdS X.K (W Γ ir_frozen)) :=
  (g.st (g.iff (t_tru (g.isi2 .list .tuple g.var) (fun _ => rfl))
    (g.st (g.ret (g.btup (g.ac (g.lc (g.iof g.var) (fun {_} g => g.yes) (fun {_} g => (g.callN 0 L (g.ac g.var g.anil)))) g.anil))) g.nil)
    (g.nil))
  (g.st g.retv g.nil))
abbrev s_identity : Stmt := topS 3
def t_identity : Tb := ⟨["size"], fns⟩
theorem sc_identity : FnScope t_identity.N ["size"] (defScope s_identity) := ⟨rfl, rfl, rfl, by decide +kernel, rfl, by decide +kernel, by decide +kernel⟩
def ir_identity : Ss :=
  (.cons (.ret (.trng (.var 0)))
  .nil)
theorem b_identity {X : Cx} {k : Nat} {Γ : List Spc} (g : Gd t_identity k Γ (defScope s_identity) X) (fn : X.fn = fun _ => true) (L : Γ.length = 1) : PSs X (defBody s_identity) (rdS X.K (W Γ ir_identity)) :=
  (g.st (g.ret (g.trng g.var)) g.nil)
abbrev s_compose : Stmt := topS 4
def t_compose : Tb := ⟨["one", "two", "entry"], fns⟩
theorem sc_compose : FnScope t_compose.N ["one", "two"] (defScope s_compose) := ⟨rfl, rfl, rfl, by decide +kernel, rfl, by decide +kernel, by decide +kernel⟩
def ir_compose : Ss :=
  (.cons (.ret (.blt .tuple (.cons (.lc 2 (.of (.var 1)) .nil (.ix (.var 0) (.var 2))) .nil)))
  .nil)
theorem b_compose {X : Cx} {k : Nat} {Γ : List Spc} (g : Gd t_compose k Γ (defScope s_compose) X) (fn : X.fn = fun _ => true) (L : Γ.length = 2) : PSs X (defBody s_compose) (rdS X.K (W Γ ir_compose)) :=
  (g.st (g.ret (g.btup (g.ac (g.lc (g.iof g.var) (fun {_} g => g.yes) (fun {_} g => (g.ixv g.var))) g.anil))) g.nil)
abbrev s_inverse : Stmt := topS 5
def t_inverse : Tb := ⟨["one", "back", "place"], fns⟩
theorem sc_inverse : FnScope t_inverse.N ["one"] (defScope s_inverse) := ⟨rfl, rfl, rfl, by decide +kernel, rfl, by decide +kernel, by decide +kernel⟩
def ir_inverse : Ss :=
  (.cons (.asg 1 (.bin .mul (.lst (.cons (.cst (.int 0)) .nil)) (.blt .len (.cons (.var 0) .nil))))
  (.cons (.each 2 (.rng (.cons (.blt .len (.cons (.var 0) .nil)) .nil))
    (.cons (.setx 1 (.ix (.var 0) (.var 2)) (.var 2))
    .nil))
  (.cons (.ret (.blt .tuple (.cons (.var 1) .nil)))
  .nil)))
theorem b_inverse {X : Cx} {k : Nat} {Γ : List Spc} (g : Gd t_inverse k Γ (defScope s_inverse) X) (fn : X.fn = fun _ => true) (L : Γ.length = 3) : PSs X (defBody s_inverse) (rdS X.K (W Γ ir_inverse)) :=
  (g.st (g.asg fn (g.mul (e_lst (g.ac g.int g.anil)) (g.len (g.ac g.var g.anil))))
  (g.st (g.each fn (g.irng1 (g.len (g.ac g.var g.anil)))
    (g.st (g.setx (g.ixv g.var) g.var) g.nil))
  (g.st (g.ret (g.btup (g.ac g.var g.anil))) g.nil)))
abbrev s_closure : Stmt := topS 7
def t_closure : Tb := ⟨["size", "generators", "members", "known", "at", "generator", "product"], fns⟩
theorem sc_closure : FnScope t_closure.N ["size", "generators"] (defScope s_closure) := ⟨rfl, rfl, rfl, by decide +kernel, rfl, by decide +kernel, by decide +kernel⟩
def ir_closure : Ss :=
  (.cons (.asg 2 (.lst (.cons (.call 1 (.cons (.var 0) .nil)) .nil)))
  (.cons (.dnew true 3 (.cons (.ix (.var 2) (.cst (.int 0))) (.cons (.cst (.bl true)) .nil)))
  (.cons (.asg 4 (.cst (.int 0)))
  (.cons (.whl (.cmp .lt (.var 4) (.blt .len (.cons (.var 2) .nil)))
    (.cons (.each 5 (.of (.var 1))
      (.cons (.asg 6 (.call 2 (.cons (.var 5) (.cons (.ix (.var 2) (.var 4)) .nil))))
      (.cons (.frz 6)
      (.cons (.iff (.cmp .notin (.var 6) (.var 3))
        (.cons (.setx 3 (.var 6) (.cst (.bl true)))
        (.cons (.app 2 (.var 6))
        .nil))
        .nil)
      .nil))))
    (.cons (.aug 4 (.cst (.int 1)))
    .nil)))
  (.cons (.ret (.var 2))
  .nil)))))
theorem b_closure {X : Cx} {k : Nat} {Γ : List Spc} (g : Gd t_closure k Γ (defScope s_closure) X) (fn : X.fn = fun _ => true) (L : Γ.length = 4) : PSs X (defBody s_closure) (rdS X.K (W Γ ir_closure)) :=
  (g.st (g.asg fn (e_lst (g.ac (g.callN 1 L (g.ac g.var g.anil)) g.anil)))
  (g.st (g.dnew1 fn (g.ixv g.int) g.bl)
  (g.st (g.asg fn g.int)
  (g.st (g.whl (g.lt g.var (g.len (g.ac g.var g.anil))).2
    (g.st (g.each fn (g.iof g.var)
      (g.st (g.asg fn (g.callN 2 L (g.ac g.var (g.ac (g.ixv g.var) g.anil))))
      (g.frz (i := 6)
      (g.st (g.iff (g.ninv g.var).2
        (g.st (g.setx g.var g.bl)
        (g.st (g.app g.var) g.nil))
        (g.nil)) g.nil))))
    (g.st (g.aug fn g.int) g.nil)))
  (g.st g.retv g.nil)))))
abbrev s_generated : Stmt := topS 8
def t_generated : Tb := ⟨["size", "generators", "kept", "members", "known", "generator", "member", "one"], fns⟩
theorem sc_generated : FnScope t_generated.N ["size", "generators"] (defScope s_generated) := ⟨rfl, rfl, rfl, by decide +kernel, rfl, by decide +kernel, by decide +kernel⟩
def ir_generated : Ss :=
  (.cons (.asg 2 (.lst .nil))
  (.cons (.asg 3 (.lst (.cons (.call 1 (.cons (.var 0) .nil)) .nil)))
  (.cons (.frz 3)
  (.cons (.dnew true 4 (.cons (.ix (.var 3) (.cst (.int 0))) (.cons (.cst (.bl true)) .nil)))
  (.cons (.each 5 (.of (.var 1))
    (.cons (.asg 6 (.blt .tuple (.cons (.var 5) .nil)))
    (.cons (.frz 6)
    (.cons (.iff (.cmp .notin (.var 6) (.var 4))
      (.cons (.app 2 (.var 6))
      (.cons (.asg 3 (.call 4 (.cons (.var 0) (.cons (.var 2) .nil))))
      (.cons (.frz 3)
      (.cons (.dcomp true 4 7 (.of (.var 3)) (.var 7) (.cst (.bl true)))
      .nil))))
      .nil)
    .nil))))
  (.cons (.ret (.blt .tuple (.cons (.blt .sorted (.cons (.var 3) .nil)) .nil)))
  .nil))))))
theorem b_generated {X : Cx} {k : Nat} {Γ : List Spc} (g : Gd t_generated k Γ (defScope s_generated) X) (fn : X.fn = fun _ => true) (L : Γ.length = 5) : PSs X (defBody s_generated) (rdS X.K (W Γ ir_generated)) :=
  (g.st (g.asg fn (e_lst g.anil))
  (g.st (g.asg fn (e_lst (g.ac (g.callN 1 L (g.ac g.var g.anil)) g.anil)))
  (g.frz (i := 3)
  (g.st (g.dnew1 fn (g.ixv g.int) g.bl)
  (g.st (g.each fn (g.iof g.var)
    (g.st (g.asg fn (g.btup (g.ac g.var g.anil)))
    (g.frz (i := 6)
    (g.st (g.iff (g.ninv g.var).2
      (g.st (g.app g.var)
      (g.st (g.asg fn (g.callN 4 L (g.ac g.var (g.ac g.var g.anil))))
      (g.frz (i := 3)
      (g.st (g.asgDc (g.iof g.var) (fun {_} g => g.var) (fun {_} g => g.bl)) g.nil))))
      (g.nil)) g.nil))))
  (g.st (g.ret (g.btup (g.ac (g.sorted (g.ac g.var g.anil)) g.anil))) g.nil))))))
abbrev s_stabilizer : Stmt := topS 9
def t_stabilizer : Tb := ⟨["table", "point", "member"], fns⟩
theorem sc_stabilizer : FnScope t_stabilizer.N ["table", "point"] (defScope s_stabilizer) := ⟨rfl, rfl, rfl, by decide +kernel, rfl, by decide +kernel, by decide +kernel⟩
def ir_stabilizer : Ss :=
  (.cons (.ret (.blt .tuple (.cons (.lc 2 (.of (.var 0)) (.cons (.cmp .eq (.ix (.var 2) (.var 1)) (.var 1)) .nil) (.blt .tuple (.cons (.var 2) .nil))) .nil)))
  .nil)
theorem b_stabilizer {X : Cx} {k : Nat} {Γ : List Spc} (g : Gd t_stabilizer k Γ (defScope s_stabilizer) X) (fn : X.fn = fun _ => true) (L : Γ.length = 6) : PSs X (defBody s_stabilizer) (rdS X.K (W Γ ir_stabilizer)) :=
  (g.st (g.ret (g.btup (g.ac (g.lc (g.iof g.var) (fun {_} g => (g.one (g.eq (g.ixv g.var) g.var).2)) (fun {_} g => (g.btup (g.ac g.var g.anil)))) g.anil))) g.nil)
abbrev s_doubling_member : Stmt := topS 11
def t_doubling_member : Tb := ⟨["table", "lower", "known", "member", "back", "low"], fns⟩
theorem sc_doubling_member : FnScope t_doubling_member.N ["table", "lower"] (defScope s_doubling_member) := ⟨rfl, rfl, rfl, by decide +kernel, rfl, by decide +kernel, by decide +kernel⟩
def ir_doubling_member : Ss :=
  (.cons (.dcomp true 2 3 (.of (.var 1)) (.var 3) (.cst (.bl true)))
  (.cons (.each 3 (.of (.var 0))
    (.cons (.iff (.and (.cmp .notin (.var 3) (.var 2)) (.cmp .isin (.call 2 (.cons (.var 3) (.cons (.var 3) .nil))) (.var 2)))
      (.cons (.asg 4 (.call 3 (.cons (.var 3) .nil)))
      (.cons (.frz 4)
      (.cons (.iff (.tru (.blt .all (.cons (.lc 5 (.of (.var 1)) .nil (.cmp .isin (.call 2 (.cons (.call 2 (.cons (.var 3) (.cons (.var 5) .nil))) (.cons (.var 4) .nil))) (.var 2))) .nil)))
        (.cons (.ret (.var 3))
        .nil)
        .nil)
      .nil)))
      .nil)
    .nil))
  (.cons (.ret (.cst .non))
  .nil)))
theorem b_doubling_member {X : Cx} {k : Nat} {Γ : List Spc} (g : Gd t_doubling_member k Γ (defScope s_doubling_member) X) (fn : X.fn = fun _ => true) (L : Γ.length = 7) : PSs X (defBody s_doubling_member) (rdS X.K (W Γ ir_doubling_member)) :=
  (g.st (g.asgDcC fn (g.iof g.var) (fun {_} g => g.var) (fun {_} g => g.bl))
  (g.st (g.each fn (g.iof g.var)
    (g.st (g.iff (t_and (g.ninv g.var).2 (pw_and1 (g.inv (g.callN 2 L (g.ac g.var (g.ac g.var g.anil)))).2)).pt
      (g.st (g.asg fn (g.callN 3 L (g.ac g.var g.anil)))
      (g.frz (i := 4)
      (g.st (g.iff (t_tru (g.all (g.ac (g.lc (g.iof g.var) (fun {_} g => g.yes) (fun {_} g => (g.inv (g.callN 2 L (g.ac (g.callN 2 L (g.ac g.var (g.ac g.var g.anil))) (g.ac g.var g.anil)))).1)) g.anil)) (fun _ => rfl))
        (g.st g.retv g.nil)
        (g.nil)) g.nil)))
      (g.nil)) g.nil))
  (g.st (g.ret g.non) g.nil)))
abbrev s_halving_steps : Stmt := topS 12
def t_halving_steps : Tb := ⟨["table", "point", "whole", "chain", "added", "member"], fns⟩
theorem sc_halving_steps : FnScope t_halving_steps.N ["table", "point"] (defScope s_halving_steps) := ⟨rfl, rfl, rfl, by decide +kernel, rfl, by decide +kernel, by decide +kernel⟩
def ir_halving_steps : Ss :=
  (.cons (.asg 2 (.call 0 (.cons (.var 0) .nil)))
  (.cons (.frz 2)
  (.cons (.asg 3 (.lst (.cons (.call 6 (.cons (.var 2) (.cons (.var 1) .nil))) .nil)))
  (.cons (.asg 4 (.lst .nil))
  (.cons (.whl (.cmp .lt (.blt .len (.cons (.ix (.var 3) (.neg (.cst (.int 1)))) .nil)) (.blt .len (.cons (.var 2) .nil)))
    (.cons (.asg 5 (.call 7 (.cons (.var 2) (.cons (.ix (.var 3) (.neg (.cst (.int 1)))) .nil))))
    (.cons (.frz 5)
    (.cons (.app 4 (.var 5))
    (.cons (.app 3 (.call 5 (.cons (.blt .len (.cons (.var 5) .nil)) (.cons (.bin .add (.ix (.var 3) (.neg (.cst (.int 1)))) (.tup (.cons (.var 5) .nil))) .nil))))
    .nil)))))
  (.cons (.ret (.tup (.cons (.blt .tuple (.cons (.var 3) .nil)) (.cons (.blt .tuple (.cons (.var 4) .nil)) .nil))))
  .nil))))))
theorem b_halving_steps {X : Cx} {k : Nat} {Γ : List Spc} (g : Gd t_halving_steps k Γ (defScope s_halving_steps) X) (fn : X.fn = fun _ => true) (L : Γ.length = 8) : PSs X (defBody s_halving_steps) (rdS X.K (W Γ ir_halving_steps)) :=
  (g.st (g.asg fn (g.callN 0 L (g.ac g.var g.anil)))
  (g.frz (i := 2)
  (g.st (g.asg fn (e_lst (g.ac (g.callN 6 L (g.ac g.var (g.ac g.var g.anil))) g.anil)))
  (g.st (g.asg fn (e_lst g.anil))
  (g.st (g.whl (g.lt (g.len (g.ac (g.ixv (e_neg g.int)) g.anil)) (g.len (g.ac g.var g.anil))).2
    (g.st (g.asg fn (g.callN 7 L (g.ac g.var (g.ac (g.ixv (e_neg g.int)) g.anil))))
    (g.frz (i := 5)
    (g.st (g.app g.var)
    (g.st (g.app (g.callN 5 L (g.ac (g.len (g.ac g.var g.anil)) (g.ac (g.add (g.ixv (e_neg g.int)) (e_tup (g.ac g.var g.anil))) g.anil)))) g.nil)))))
  (g.st (g.ret (e_tup (g.ac (g.btup (g.ac g.var g.anil)) (g.ac (g.btup (g.ac g.var g.anil)) g.anil)))) g.nil))))))
abbrev s_halving_chain : Stmt := topS 13
def t_halving_chain : Tb := ⟨["table", "point"], fns⟩
theorem sc_halving_chain : FnScope t_halving_chain.N ["table", "point"] (defScope s_halving_chain) := ⟨rfl, rfl, rfl, by decide +kernel, rfl, by decide +kernel, by decide +kernel⟩
def ir_halving_chain : Ss :=
  (.cons (.ret (.ix (.call 8 (.cons (.var 0) (.cons (.var 1) .nil))) (.cst (.int 0))))
  .nil)
theorem b_halving_chain {X : Cx} {k : Nat} {Γ : List Spc} (g : Gd t_halving_chain k Γ (defScope s_halving_chain) X) (fn : X.fn = fun _ => true) (L : Γ.length = 9) : PSs X (defBody s_halving_chain) (rdS X.K (W Γ ir_halving_chain)) :=
  (g.st (g.ret (g.ix (g.callN 8 L (g.ac g.var (g.ac g.var g.anil))) g.int)) g.nil)
abbrev s_law_whole : Stmt := topS 15
def t_law_whole : Tb := ⟨["value"], fns⟩
theorem sc_law_whole : FnScope t_law_whole.N ["value"] (defScope s_law_whole) := ⟨rfl, rfl, rfl, by decide +kernel, rfl, by decide +kernel, by decide +kernel⟩
def ir_law_whole : Ss :=
  (.cons (.ret (.and (.isi (.var 0) [.int]) (.not (.isi (.var 0) [.bool]))))
  .nil)
theorem b_law_whole {X : Cx} {k : Nat} {Γ : List Spc} (g : Gd t_law_whole k Γ (defScope s_law_whole) X) (fn : X.fn = fun _ => true) (L : Γ.length = 10) : PSs X (defBody s_law_whole) (rdS X.K (W Γ ir_law_whole)) :=
  (g.st (g.ret (e_and (g.isi1 .int g.var) (pe_one (e_not (g.isi1 .bool g.var))))) g.nil)
abbrev s_law_cell : Stmt := topS 16
def t_law_cell : Tb := ⟨["script", "k", "seed", "cell"], fns⟩
theorem sc_law_cell : FnScope t_law_cell.N ["script", "k"] (defScope s_law_cell) := ⟨rfl, rfl, rfl, by decide +kernel, rfl, by decide +kernel, by decide +kernel⟩
def ir_law_cell : Ss :=
  (.cons (.iff (.cmp .lt (.var 1) (.blt .len (.cons (.var 0) .nil)))
    (.cons (.ret (.blt .int (.cons (.ix (.var 0) (.var 1)) .nil)))
    .nil)
    .nil)
  (.cons (.asg 2 (.cst (.int 17)))
  (.cons (.each 3 (.of (.var 0))
    (.cons (.asg 2 (.bin .mod (.blt .int (.cons (.bin .add (.bin .mul (.var 2) (.cst (.int 31))) (.bin .mod (.blt .int (.cons (.var 3) .nil)) (.cst (.int 1000003)))) .nil)) (.cst (.int 1000003))))
    (.cons (.frz 2)
    .nil)))
  (.cons (.ret (.bin .mod (.blt .int (.cons (.bin .mul (.bin .mul (.bin .add (.var 2) (.cst (.int 7))) (.bin .add (.var 1) (.cst (.int 3)))) (.cst (.int 69621))) .nil)) (.cst (.int 2147483647))))
  .nil))))
theorem b_law_cell {X : Cx} {k : Nat} {Γ : List Spc} (g : Gd t_law_cell k Γ (defScope s_law_cell) X) (fn : X.fn = fun _ => true) (L : Γ.length = 11) : PSs X (defBody s_law_cell) (rdS X.K (W Γ ir_law_cell)) :=
  (g.st (g.iff (g.lt g.var (g.len (g.ac g.var g.anil))).2
    (g.st (g.ret (g.bint (g.ac (g.ixv g.var) g.anil))) g.nil)
    (g.nil))
  (g.st (g.asg fn g.int)
  (g.st (g.each fn (g.iof g.var)
    (g.st (g.asg fn (g.mod (g.bint (g.ac (g.add (g.mul g.var g.int) (g.mod (g.bint (g.ac g.var g.anil)) g.int)) g.anil)) g.int))
    (g.frz (i := 2) g.nil)))
  (g.st (g.ret (g.mod (g.bint (g.ac (g.mul (g.mul (g.add g.var g.int) (g.add g.var g.int)) g.int) g.anil)) g.int)) g.nil))))
abbrev s_law_digits : Stmt := topS 17
def t_law_digits : Tb := ⟨["cell", "sizes", "total", "size", "row", "seed", "k", "rest", "twice"], fns⟩
theorem sc_law_digits : FnScope t_law_digits.N ["cell", "sizes"] (defScope s_law_digits) := ⟨rfl, rfl, rfl, by decide +kernel, rfl, by decide +kernel, by decide +kernel⟩
def ir_law_digits : Ss :=
  (.cons (.asg 2 (.cst (.int 1)))
  (.cons (.each 3 (.of (.var 1))
    (.cons (.asg 2 (.bin .mul (.var 2) (.var 3)))
    (.cons (.frz 2)
    .nil)))
  (.cons (.asg 4 (.lst .nil))
  (.cons (.iff (.cmp .ge (.blt .int (.cons (.var 0) .nil)) (.bin .pow (.cst (.int 10)) (.cst (.int 18))))
    (.cons (.asg 7 (.bin .mod (.blt .int (.cons (.bin .sub (.blt .int (.cons (.var 0) .nil)) (.bin .pow (.cst (.int 10)) (.cst (.int 18)))) .nil)) (.var 2)))
    (.cons (.frz 7)
    (.cons (.each 3 (.of (.var 1))
      (.cons (.app 4 (.bin .mod (.blt .int (.cons (.var 7) .nil)) (.var 3)))
      (.cons (.asg 7 (.bin .fdiv (.blt .int (.cons (.var 7) .nil)) (.var 3)))
      (.cons (.frz 7)
      .nil))))
    (.cons (.ret (.var 4))
    .nil))))
    .nil)
  (.cons (.asg 5 (.bin .mod (.blt .int (.cons (.var 0) .nil)) (.cst (.int 2147483629))))
  (.cons (.frz 5)
  (.cons (.each 6 (.rng (.cons (.blt .len (.cons (.var 1) .nil)) .nil))
    (.cons (.asg 5 (.bin .mod (.blt .int (.cons (.bin .add (.bin .add (.bin .mul (.var 5) (.cst (.int 48271))) (.bin .mul (.cst (.int 974711)) (.var 6))) (.cst (.int 12345))) .nil)) (.cst (.int 2147483647))))
    (.cons (.frz 5)
    (.cons (.asg 8 (.bin .mod (.blt .int (.cons (.bin .mul (.var 5) (.bin .add (.bin .fdiv (.var 5) (.cst (.int 65537))) (.cst (.int 3)))) .nil)) (.cst (.int 2147483629))))
    (.cons (.frz 8)
    (.cons (.app 4 (.bin .mod (.blt .int (.cons (.bin .fdiv (.var 8) (.cst (.int 19))) .nil)) (.ix (.var 1) (.var 6))))
    .nil))))))
  (.cons (.ret (.var 4))
  .nil))))))))
theorem b_law_digits {X : Cx} {k : Nat} {Γ : List Spc} (g : Gd t_law_digits k Γ (defScope s_law_digits) X) (fn : X.fn = fun _ => true) (L : Γ.length = 12) : PSs X (defBody s_law_digits) (rdS X.K (W Γ ir_law_digits)) :=
  (g.st (g.asg fn g.int)
  (g.st (g.each fn (g.iof g.var)
    (g.st (g.asg fn (g.mul g.var g.var))
    (g.frz (i := 2) g.nil)))
  (g.st (g.asg fn (e_lst g.anil))
  (g.st (g.iff (g.ge (g.bint (g.ac g.var g.anil)) (g.pow g.int g.int)).2
    (g.st (g.asg fn (g.mod (g.bint (g.ac (g.sub (g.bint (g.ac g.var g.anil)) (g.pow g.int g.int)) g.anil)) g.var))
    (g.frz (i := 7)
    (g.st (g.each fn (g.iof g.var)
      (g.st (g.app (g.mod (g.bint (g.ac g.var g.anil)) g.var))
      (g.st (g.asg fn (g.fdiv (g.bint (g.ac g.var g.anil)) g.var))
      (g.frz (i := 7) g.nil))))
    (g.st g.retv g.nil))))
    (g.nil))
  (g.st (g.asg fn (g.mod (g.bint (g.ac g.var g.anil)) g.int))
  (g.frz (i := 5)
  (g.st (g.each fn (g.irng1 (g.len (g.ac g.var g.anil)))
    (g.st (g.asg fn (g.mod (g.bint (g.ac (g.add (g.add (g.mul g.var g.int) (g.mul g.int g.var)) g.int) g.anil)) g.int))
    (g.frz (i := 5)
    (g.st (g.asg fn (g.mod (g.bint (g.ac (g.mul g.var (g.add (g.fdiv g.var g.int) g.int)) g.anil)) g.int))
    (g.frz (i := 8)
    (g.st (g.app (g.mod (g.bint (g.ac (g.fdiv g.var g.int) g.anil)) (g.ixv g.var))) g.nil))))))
  (g.st g.retv g.nil))))))))
abbrev s_law_gcd : Stmt := topS 18
def t_law_gcd : Tb := ⟨["one", "two", "left", "right", "rest"], fns⟩
theorem sc_law_gcd : FnScope t_law_gcd.N ["one", "two"] (defScope s_law_gcd) := ⟨rfl, rfl, rfl, by decide +kernel, rfl, by decide +kernel, by decide +kernel⟩
def ir_law_gcd : Ss :=
  (.cons (.asg 2 (.blt .abs (.cons (.var 0) .nil)))
  (.cons (.frz 2)
  (.cons (.asg 3 (.blt .abs (.cons (.var 1) .nil)))
  (.cons (.frz 3)
  (.cons (.whl (.cmp .ne (.var 3) (.cst (.int 0)))
    (.cons (.asg 4 (.bin .mod (.blt .int (.cons (.var 2) .nil)) (.var 3)))
    (.cons (.frz 4)
    (.cons (.asg 2 (.var 3))
    (.cons (.asg 3 (.var 4))
    .nil)))))
  (.cons (.ret (.var 2))
  .nil))))))
theorem b_law_gcd {X : Cx} {k : Nat} {Γ : List Spc} (g : Gd t_law_gcd k Γ (defScope s_law_gcd) X) (fn : X.fn = fun _ => true) (L : Γ.length = 13) : PSs X (defBody s_law_gcd) (rdS X.K (W Γ ir_law_gcd)) :=
  (g.st (g.asg fn (g.abs (g.ac g.var g.anil)))
  (g.frz (i := 2)
  (g.st (g.asg fn (g.abs (g.ac g.var g.anil)))
  (g.frz (i := 3)
  (g.st (g.whl (g.ne g.var g.int).2
    (g.st (g.asg fn (g.mod (g.bint (g.ac g.var g.anil)) g.var))
    (g.frz (i := 4)
    (g.st (g.asg fn g.var)
    (g.st (g.asg fn g.var) g.nil)))))
  (g.st g.retv g.nil))))))
abbrev s_law_compose : Stmt := topS 19
def t_law_compose : Tb := ⟨["one", "two", "entry"], fns⟩
theorem sc_law_compose : FnScope t_law_compose.N ["one", "two"] (defScope s_law_compose) := ⟨rfl, rfl, rfl, by decide +kernel, rfl, by decide +kernel, by decide +kernel⟩
def ir_law_compose : Ss :=
  (.cons (.ret (.blt .tuple (.cons (.lc 2 (.of (.var 1)) .nil (.ix (.var 0) (.var 2))) .nil)))
  .nil)
theorem b_law_compose {X : Cx} {k : Nat} {Γ : List Spc} (g : Gd t_law_compose k Γ (defScope s_law_compose) X) (fn : X.fn = fun _ => true) (L : Γ.length = 14) : PSs X (defBody s_law_compose) (rdS X.K (W Γ ir_law_compose)) :=
  (g.st (g.ret (g.btup (g.ac (g.lc (g.iof g.var) (fun {_} g => g.yes) (fun {_} g => (g.ixv g.var))) g.anil))) g.nil)
abbrev s_law_closed : Stmt := topS 20
def t_law_closed : Tb := ⟨["size", "generators", "most", "members", "known", "at", "generator", "product", "k"], fns⟩
theorem sc_law_closed : FnScope t_law_closed.N ["size", "generators", "most"] (defScope s_law_closed) := ⟨rfl, rfl, rfl, by decide +kernel, rfl, by decide +kernel, by decide +kernel⟩
def ir_law_closed : Ss :=
  (.cons (.asg 3 (.lst (.cons (.blt .tuple (.cons (.lc 8 (.rng (.cons (.var 0) .nil)) .nil (.var 8)) .nil)) .nil)))
  (.cons (.dnew true 4 (.cons (.ix (.var 3) (.cst (.int 0))) (.cons (.cst (.bl true)) .nil)))
  (.cons (.each 5 (.rng (.cons (.var 2) .nil))
    (.cons (.iff (.cmp .eq (.var 5) (.blt .len (.cons (.var 3) .nil)))
      (.cons .brk
      .nil)
      .nil)
    (.cons (.each 6 (.of (.var 1))
      (.cons (.asg 7 (.call 14 (.cons (.var 6) (.cons (.ix (.var 3) (.var 5)) .nil))))
      (.cons (.frz 7)
      (.cons (.iff (.cmp .notin (.var 7) (.var 4))
        (.cons (.iff (.cmp .eq (.blt .len (.cons (.var 3) .nil)) (.var 2))
          (.cons (.ret (.cst .non))
          .nil)
          .nil)
        (.cons (.setx 4 (.var 7) (.cst (.bl true)))
        (.cons (.app 3 (.var 7))
        .nil)))
        .nil)
      .nil))))
    .nil)))
  (.cons (.ret (.var 3))
  .nil))))
theorem b_law_closed {X : Cx} {k : Nat} {Γ : List Spc} (g : Gd t_law_closed k Γ (defScope s_law_closed) X) (fn : X.fn = fun _ => true) (L : Γ.length = 15) : PSs X (defBody s_law_closed) (rdS X.K (W Γ ir_law_closed)) :=
  (g.st (g.asg fn (e_lst (g.ac (g.btup (g.ac (g.lc (g.irng1 g.var) (fun {_} g => g.yes) (fun {_} g => g.var)) g.anil)) g.anil)))
  (g.st (g.dnew1 fn (g.ixv g.int) g.bl)
  (g.st (g.each fn (g.irng1 g.var)
    (g.st (g.iff (g.eq g.var (g.len (g.ac g.var g.anil))).2
      (g.st g.brk g.nil)
      (g.nil))
    (g.st (g.each fn (g.iof g.var)
      (g.st (g.asg fn (g.callN 14 L (g.ac g.var (g.ac (g.ixv g.var) g.anil))))
      (g.frz (i := 7)
      (g.st (g.iff (g.ninv g.var).2
        (g.st (g.iff (g.eq (g.len (g.ac g.var g.anil)) g.var).2
          (g.st (g.ret g.non) g.nil)
          (g.nil))
        (g.st (g.setx g.var g.bl)
        (g.st (g.app g.var) g.nil)))
        (g.nil)) g.nil)))) g.nil)))
  (g.st g.retv g.nil))))
abbrev s_law_accepted : Stmt := topS 21
def t_law_accepted : Tb := ⟨["size", "drawn", "most", "kept", "members", "found", "one", "wider"], fns⟩
theorem sc_law_accepted : FnScope t_law_accepted.N ["size", "drawn", "most"] (defScope s_law_accepted) := ⟨rfl, rfl, rfl, by decide +kernel, rfl, by decide +kernel, by decide +kernel⟩
def ir_law_accepted : Ss :=
  (.cons (.asg 3 (.lst .nil))
  (.cons (.asg 4 (.call 15 (.cons (.var 0) (.cons (.var 3) (.cons (.var 2) .nil)))))
  (.cons (.frz 4)
  (.cons (.asg 5 (.lst .nil))
  (.cons (.each 6 (.of (.var 1))
    (.cons (.iff (.cmp .isin (.var 6) (.var 4))
      (.cons (.app 5 (.var 6))
      .nil)
      (.cons (.asg 7 (.call 15 (.cons (.var 0) (.cons (.bin .add (.var 3) (.lst (.cons (.var 6) .nil))) (.cons (.var 2) .nil)))))
      (.cons (.frz 7)
      (.cons (.iff (.and (.isn true (.var 7)) (.cmp .isin (.blt .len (.cons (.var 7) .nil)) (.lst (.cons (.cst (.int 1)) (.cons (.cst (.int 2)) (.cons (.cst (.int 4)) (.cons (.cst (.int 8)) (.cons (.cst (.int 16)) (.cons (.cst (.int 32)) (.cons (.cst (.int 64)) (.cons (.cst (.int 128)) .nil)))))))))))
        (.cons (.app 3 (.var 6))
        (.cons (.app 5 (.var 6))
        (.cons (.asg 4 (.var 7))
        .nil)))
        .nil)
      .nil))))
    .nil))
  (.cons (.ret (.lst (.cons (.var 5) (.cons (.blt .sorted (.cons (.var 4) .nil)) .nil))))
  .nil))))))
theorem b_law_accepted {X : Cx} {k : Nat} {Γ : List Spc} (g : Gd t_law_accepted k Γ (defScope s_law_accepted) X) (fn : X.fn = fun _ => true) (L : Γ.length = 16) : PSs X (defBody s_law_accepted) (rdS X.K (W Γ ir_law_accepted)) :=
  (g.st (g.asg fn (e_lst g.anil))
  (g.st (g.asg fn (g.callN 15 L (g.ac g.var (g.ac g.var (g.ac g.var g.anil)))))
  (g.frz (i := 4)
  (g.st (g.asg fn (e_lst g.anil))
  (g.st (g.each fn (g.iof g.var)
    (g.st (g.iff (g.inv g.var).2
      (g.st (g.app g.var) g.nil)
      (g.st (g.asg fn (g.callN 15 L (g.ac g.var (g.ac (g.add g.var (e_lst (g.ac g.var g.anil))) (g.ac g.var g.anil)))))
      (g.frz (i := 7)
      (g.st (g.iff (t_and (e_notn g.var).2 (pw_and1 (g.isin (g.len (g.ac g.var g.anil)) (e_lst (g.ac g.int (g.ac g.int (g.ac g.int (g.ac g.int (g.ac g.int (g.ac g.int (g.ac g.int (g.ac g.int g.anil)))))))))).2)).pt
        (g.st (g.app g.var)
        (g.st (g.app g.var)
        (g.st (g.asg fn g.var) g.nil)))
        (g.nil)) g.nil)))) g.nil))
  (g.st (g.ret (e_lst (g.ac g.var (g.ac (g.sorted (g.ac g.var g.anil)) g.anil)))) g.nil))))))
abbrev s_law_shuffled : Stmt := topS 22
def t_law_shuffled : Tb := ⟨["cell", "size", "left", "found", "digit", "k"], fns⟩
theorem sc_law_shuffled : FnScope t_law_shuffled.N ["cell", "size"] (defScope s_law_shuffled) := ⟨rfl, rfl, rfl, by decide +kernel, rfl, by decide +kernel, by decide +kernel⟩
def ir_law_shuffled : Ss :=
  (.cons (.asg 2 (.lc 5 (.rng (.cons (.var 1) .nil)) .nil (.var 5)))
  (.cons (.asg 3 (.lst .nil))
  (.cons (.each 4 (.of (.call 12 (.cons (.var 0) (.cons (.lc 5 (.rng (.cons (.var 1) .nil)) .nil (.bin .sub (.var 1) (.var 5))) .nil))))
    (.cons (.appPop 3 2 (.var 4))
    .nil))
  (.cons (.ret (.blt .tuple (.cons (.var 3) .nil)))
  .nil))))
theorem b_law_shuffled {X : Cx} {k : Nat} {Γ : List Spc} (g : Gd t_law_shuffled k Γ (defScope s_law_shuffled) X) (fn : X.fn = fun _ => true) (L : Γ.length = 17) : PSs X (defBody s_law_shuffled) (rdS X.K (W Γ ir_law_shuffled)) :=
  (g.st (g.asgLc (g.irng1 g.var) (fun {_} g => g.yes) (fun {_} g => g.var))
  (g.st (g.asg fn (e_lst g.anil))
  (g.st (g.each fn (g.iof (g.callN 12 L (g.ac g.var (g.ac (g.lc (g.irng1 g.var) (fun {_} g => g.yes) (fun {_} g => (g.sub g.var g.var))) g.anil))))
    (g.st (g.appPop g.var) g.nil))
  (g.st (g.ret (g.btup (g.ac g.var g.anil))) g.nil))))
abbrev s_law_layers : Stmt := topS 23
def t_law_layers : Tb := ⟨["cell", "mask", "bits", "leaves", "leaf", "found", "layer", "high", "middle", "step", "start", "k"], fns⟩
theorem sc_law_layers : FnScope t_law_layers.N ["cell", "mask"] (defScope s_law_layers) := ⟨rfl, rfl, rfl, by decide +kernel, rfl, by decide +kernel, by decide +kernel⟩
def ir_law_layers : Ss :=
  (.cons (.asg 2 (.call 12 (.cons (.var 0) (.cons (.lst (.cons (.cst (.int 2)) (.cons (.cst (.int 2)) (.cons (.cst (.int 2)) (.cons (.cst (.int 2)) (.cons (.cst (.int 2)) (.cons (.cst (.int 2)) (.cons (.cst (.int 2)) .nil)))))))) .nil))))
  (.cons (.frz 2)
  (.cons (.asg 3 (.lst .nil))
  (.cons (.each 4 (.rng (.cons (.cst (.int 8)) .nil))
    (.cons (.asg 7 (.bin .mod (.blt .int (.cons (.bin .add (.bin .fdiv (.var 4) (.cst (.int 4))) (.ix (.var 2) (.cst (.int 0)))) .nil)) (.cst (.int 2))))
    (.cons (.frz 7)
    (.cons (.asg 8 (.bin .mod (.blt .int (.cons (.bin .add (.bin .fdiv (.var 4) (.cst (.int 2))) (.ix (.var 2) (.bin .add (.cst (.int 1)) (.bin .fdiv (.var 4) (.cst (.int 4)))))) .nil)) (.cst (.int 2))))
    (.cons (.frz 8)
    (.cons (.app 3 (.bin .add (.bin .add (.bin .mul (.cst (.int 4)) (.var 7)) (.bin .mul (.cst (.int 2)) (.var 8))) (.bin .mod (.blt .int (.cons (.bin .add (.var 4) (.ix (.var 2) (.bin .add (.cst (.int 3)) (.bin .fdiv (.var 4) (.cst (.int 2)))))) .nil)) (.cst (.int 2)))))
    .nil))))))
  (.cons (.asg 5 (.lst .nil))
  (.cons (.each 6 (.rng (.cons (.cst (.int 4)) .nil))
    (.cons (.iff (.cmp .eq (.bin .mod (.blt .int (.cons (.bin .shr (.var 1) (.var 6)) .nil)) (.cst (.int 2))) (.cst (.int 1)))
      (.cons (.asg 9 (.ix (.lst (.cons (.cst (.int 1)) (.cons (.cst (.int 2)) (.cons (.cst (.int 4)) (.cons (.cst (.int 1)) .nil))))) (.var 6)))
      (.cons (.frz 9)
      (.cons (.asg 10 (.blt .len (.cons (.var 5) .nil)))
      (.cons (.frz 10)
      (.cons (.each 11 (.rng (.cons (.bin .fdiv (.cst (.int 8)) (.var 9)) .nil))
        (.cons (.app 5 (.bin .add (.var 10) (.bin .fdiv (.ix (.var 3) (.bin .mul (.var 11) (.var 9))) (.var 9))))
        .nil))
      .nil)))))
      .nil)
    .nil))
  (.cons (.ret (.blt .tuple (.cons (.var 5) .nil)))
  .nil)))))))
theorem b_law_layers {X : Cx} {k : Nat} {Γ : List Spc} (g : Gd t_law_layers k Γ (defScope s_law_layers) X) (fn : X.fn = fun _ => true) (L : Γ.length = 18) : PSs X (defBody s_law_layers) (rdS X.K (W Γ ir_law_layers)) :=
  (g.st (g.asg fn (g.callN 12 L (g.ac g.var (g.ac (e_lst (g.ac g.int (g.ac g.int (g.ac g.int (g.ac g.int (g.ac g.int (g.ac g.int (g.ac g.int g.anil)))))))) g.anil))))
  (g.frz (i := 2)
  (g.st (g.asg fn (e_lst g.anil))
  (g.st (g.each fn (g.irng1 g.int)
    (g.st (g.asg fn (g.mod (g.bint (g.ac (g.add (g.fdiv g.var g.int) (g.ixv g.int)) g.anil)) g.int))
    (g.frz (i := 7)
    (g.st (g.asg fn (g.mod (g.bint (g.ac (g.add (g.fdiv g.var g.int) (g.ixv (g.add g.int (g.fdiv g.var g.int)))) g.anil)) g.int))
    (g.frz (i := 8)
    (g.st (g.app (g.add (g.add (g.mul g.int g.var) (g.mul g.int g.var)) (g.mod (g.bint (g.ac (g.add g.var (g.ixv (g.add g.int (g.fdiv g.var g.int)))) g.anil)) g.int))) g.nil))))))
  (g.st (g.asg fn (e_lst g.anil))
  (g.st (g.each fn (g.irng1 g.int)
    (g.st (g.iff (g.eq (g.mod (g.bint (g.ac (g.shr g.var g.var) g.anil)) g.int) g.int).2
      (g.st (g.asg fn (g.ix (e_lst (g.ac g.int (g.ac g.int (g.ac g.int (g.ac g.int g.anil))))) g.var))
      (g.frz (i := 9)
      (g.st (g.asg fn (g.len (g.ac g.var g.anil)))
      (g.frz (i := 10)
      (g.st (g.each fn (g.irng1 (g.fdiv g.int g.var))
        (g.st (g.app (g.add g.var (g.fdiv (g.ixv (g.mul g.var g.var)) g.var))) g.nil)) g.nil)))))
      (g.nil)) g.nil))
  (g.st (g.ret (g.btup (g.ac g.var g.anil))) g.nil)))))))
abbrev s_law_turns : Stmt := topS 24
def t_law_turns : Tb := ⟨["cell", "blocks", "row", "found", "k", "start", "sign", "place", "block"], fns⟩
theorem sc_law_turns : FnScope t_law_turns.N ["cell", "blocks"] (defScope s_law_turns) := ⟨rfl, rfl, rfl, by decide +kernel, rfl, by decide +kernel, by decide +kernel⟩
def ir_law_turns : Ss :=
  (.cons (.asg 2 (.call 12 (.cons (.var 0) (.cons (.lc 8 (.of (.var 1)) .nil (.bin .mul (.cst (.int 2)) (.var 8))) .nil))))
  (.cons (.frz 2)
  (.cons (.asg 3 (.lst .nil))
  (.cons (.each 4 (.rng (.cons (.blt .len (.cons (.var 1) .nil)) .nil))
    (.cons (.asg 5 (.blt .len (.cons (.var 3) .nil)))
    (.cons (.frz 5)
    (.cons (.asg 6 (.bin .sub (.cst (.int 1)) (.bin .mul (.cst (.int 2)) (.bin .fdiv (.ix (.var 2) (.var 4)) (.ix (.var 1) (.var 4))))))
    (.cons (.frz 6)
    (.cons (.each 7 (.rng (.cons (.ix (.var 1) (.var 4)) .nil))
      (.cons (.app 3 (.bin .add (.var 5) (.bin .mod (.blt .int (.cons (.bin .add (.bin .mul (.var 6) (.var 7)) (.ix (.var 2) (.var 4))) .nil)) (.ix (.var 1) (.var 4)))))
      .nil))
    .nil))))))
  (.cons (.ret (.blt .tuple (.cons (.var 3) .nil)))
  .nil)))))
theorem b_law_turns {X : Cx} {k : Nat} {Γ : List Spc} (g : Gd t_law_turns k Γ (defScope s_law_turns) X) (fn : X.fn = fun _ => true) (L : Γ.length = 19) : PSs X (defBody s_law_turns) (rdS X.K (W Γ ir_law_turns)) :=
  (g.st (g.asg fn (g.callN 12 L (g.ac g.var (g.ac (g.lc (g.iof g.var) (fun {_} g => g.yes) (fun {_} g => (g.mul g.int g.var))) g.anil))))
  (g.frz (i := 2)
  (g.st (g.asg fn (e_lst g.anil))
  (g.st (g.each fn (g.irng1 (g.len (g.ac g.var g.anil)))
    (g.st (g.asg fn (g.len (g.ac g.var g.anil)))
    (g.frz (i := 5)
    (g.st (g.asg fn (g.sub g.int (g.mul g.int (g.fdiv (g.ixv g.var) (g.ixv g.var)))))
    (g.frz (i := 6)
    (g.st (g.each fn (g.irng1 (g.ixv g.var))
      (g.st (g.app (g.add g.var (g.mod (g.bint (g.ac (g.add (g.mul g.var g.var) (g.ixv g.var)) g.anil)) (g.ixv g.var)))) g.nil)) g.nil))))))
  (g.st (g.ret (g.btup (g.ac g.var g.anil))) g.nil)))))
abbrev s_law_affine : Stmt := topS 25
def t_law_affine : Tb := ⟨["cell", "size", "row", "unit", "turn", "k"], fns⟩
theorem sc_law_affine : FnScope t_law_affine.N ["cell", "size"] (defScope s_law_affine) := ⟨rfl, rfl, rfl, by decide +kernel, rfl, by decide +kernel, by decide +kernel⟩
def ir_law_affine : Ss :=
  (.cons (.asg 2 (.call 12 (.cons (.var 0) (.cons (.lst (.cons (.var 1) (.cons (.var 1) .nil))) .nil))))
  (.cons (.frz 2)
  (.cons (.asg 3 (.ix (.var 2) (.cst (.int 0))))
  (.cons (.frz 3)
  (.cons (.each 4 (.rng (.cons (.var 1) .nil))
    (.cons (.iff (.cmp .eq (.call 13 (.cons (.var 3) (.cons (.var 1) .nil))) (.cst (.int 1)))
      (.cons .brk
      .nil)
      .nil)
    (.cons (.asg 3 (.bin .mod (.blt .int (.cons (.bin .add (.var 3) (.cst (.int 1))) .nil)) (.var 1)))
    (.cons (.frz 3)
    .nil))))
  (.cons (.ret (.blt .tuple (.cons (.lc 5 (.rng (.cons (.var 1) .nil)) .nil (.bin .mod (.blt .int (.cons (.bin .add (.bin .mul (.var 3) (.var 5)) (.ix (.var 2) (.cst (.int 1)))) .nil)) (.var 1))) .nil)))
  .nil))))))
theorem b_law_affine {X : Cx} {k : Nat} {Γ : List Spc} (g : Gd t_law_affine k Γ (defScope s_law_affine) X) (fn : X.fn = fun _ => true) (L : Γ.length = 20) : PSs X (defBody s_law_affine) (rdS X.K (W Γ ir_law_affine)) :=
  (g.st (g.asg fn (g.callN 12 L (g.ac g.var (g.ac (e_lst (g.ac g.var (g.ac g.var g.anil))) g.anil))))
  (g.frz (i := 2)
  (g.st (g.asg fn (g.ixv g.int))
  (g.frz (i := 3)
  (g.st (g.each fn (g.irng1 g.var)
    (g.st (g.iff (g.eq (g.callN 13 L (g.ac g.var (g.ac g.var g.anil))) g.int).2
      (g.st g.brk g.nil)
      (g.nil))
    (g.st (g.asg fn (g.mod (g.bint (g.ac (g.add g.var g.int) g.anil)) g.var))
    (g.frz (i := 3) g.nil))))
  (g.st (g.ret (g.btup (g.ac (g.lc (g.irng1 g.var) (fun {_} g => g.yes) (fun {_} g => (g.mod (g.bint (g.ac (g.add (g.mul g.var g.var) (g.ixv g.int)) g.anil)) g.var))) g.anil))) g.nil))))))
abbrev s_law_signed : Stmt := topS 26
def t_law_signed : Tb := ⟨["cell", "bits", "found", "point", "half", "one", "two", "kept"], fns⟩
theorem sc_law_signed : FnScope t_law_signed.N ["cell"] (defScope s_law_signed) := ⟨rfl, rfl, rfl, by decide +kernel, rfl, by decide +kernel, by decide +kernel⟩
def ir_law_signed : Ss :=
  (.cons (.asg 1 (.call 12 (.cons (.var 0) (.cons (.lst (.cons (.cst (.int 2)) (.cons (.cst (.int 2)) (.cons (.cst (.int 2)) (.cons (.cst (.int 2)) (.cons (.cst (.int 2)) (.cons (.cst (.int 2)) .nil))))))) .nil))))
  (.cons (.frz 1)
  (.cons (.asg 2 (.lst .nil))
  (.cons (.each 3 (.rng (.cons (.cst (.int 8)) .nil))
    (.cons (.asg 4 (.bin .fdiv (.var 3) (.cst (.int 4))))
    (.cons (.frz 4)
    (.cons (.asg 5 (.bin .mod (.blt .int (.cons (.bin .add (.bin .fdiv (.var 3) (.cst (.int 2))) (.ix (.var 1) (.bin .mul (.cst (.int 2)) (.var 4)))) .nil)) (.cst (.int 2))))
    (.cons (.frz 5)
    (.cons (.asg 6 (.bin .mod (.blt .int (.cons (.bin .add (.var 3) (.ix (.var 1) (.bin .add (.bin .mul (.cst (.int 2)) (.var 4)) (.cst (.int 1))))) .nil)) (.cst (.int 2))))
    (.cons (.frz 6)
    (.cons (.iff (.cmp .eq (.ix (.var 1) (.cst (.int 4))) (.cst (.int 1)))
      (.cons (.asg 7 (.var 5))
      (.cons (.asg 5 (.var 6))
      (.cons (.asg 6 (.var 7))
      .nil)))
      .nil)
    (.cons (.app 2 (.bin .add (.bin .add (.bin .mul (.cst (.int 4)) (.bin .mod (.blt .int (.cons (.bin .add (.var 4) (.ix (.var 1) (.cst (.int 5)))) .nil)) (.cst (.int 2)))) (.bin .mul (.cst (.int 2)) (.var 5))) (.var 6)))
    .nil)))))))))
  (.cons (.ret (.blt .tuple (.cons (.var 2) .nil)))
  .nil)))))
theorem b_law_signed {X : Cx} {k : Nat} {Γ : List Spc} (g : Gd t_law_signed k Γ (defScope s_law_signed) X) (fn : X.fn = fun _ => true) (L : Γ.length = 21) : PSs X (defBody s_law_signed) (rdS X.K (W Γ ir_law_signed)) :=
  (g.st (g.asg fn (g.callN 12 L (g.ac g.var (g.ac (e_lst (g.ac g.int (g.ac g.int (g.ac g.int (g.ac g.int (g.ac g.int (g.ac g.int g.anil))))))) g.anil))))
  (g.frz (i := 1)
  (g.st (g.asg fn (e_lst g.anil))
  (g.st (g.each fn (g.irng1 g.int)
    (g.st (g.asg fn (g.fdiv g.var g.int))
    (g.frz (i := 4)
    (g.st (g.asg fn (g.mod (g.bint (g.ac (g.add (g.fdiv g.var g.int) (g.ixv (g.mul g.int g.var))) g.anil)) g.int))
    (g.frz (i := 5)
    (g.st (g.asg fn (g.mod (g.bint (g.ac (g.add g.var (g.ixv (g.add (g.mul g.int g.var) g.int))) g.anil)) g.int))
    (g.frz (i := 6)
    (g.st (g.iff (g.eq (g.ixv g.int) g.int).2
      (g.st (g.asg fn g.var)
      (g.st (g.asg fn g.var)
      (g.st (g.asg fn g.var) g.nil)))
      (g.nil))
    (g.st (g.app (g.add (g.add (g.mul g.int (g.mod (g.bint (g.ac (g.add g.var (g.ixv g.int)) g.anil)) g.int)) (g.mul g.int g.var)) g.var)) g.nil)))))))))
  (g.st (g.ret (g.btup (g.ac g.var g.anil))) g.nil)))))
abbrev s_law_regular : Stmt := topS 27
def t_law_regular : Tb := ⟨["drawn", "kept", "members", "one", "places", "k", "found", "wider", "member"], fns⟩
theorem sc_law_regular : FnScope t_law_regular.N ["drawn"] (defScope s_law_regular) := ⟨rfl, rfl, rfl, by decide +kernel, rfl, by decide +kernel, by decide +kernel⟩
def ir_law_regular : Ss :=
  (.cons (.asg 1 (.lst .nil))
  (.cons (.asg 2 (.call 15 (.cons (.cst (.int 8)) (.cons (.var 1) (.cons (.cst (.int 64)) .nil)))))
  (.cons (.frz 2)
  (.cons (.each 3 (.of (.var 0))
    (.cons (.asg 7 (.call 15 (.cons (.cst (.int 8)) (.cons (.bin .add (.var 1) (.lst (.cons (.var 3) .nil))) (.cons (.cst (.int 64)) .nil)))))
    (.cons (.frz 7)
    (.cons (.iff (.isn true (.var 7))
      (.cons (.app 1 (.var 3))
      (.cons (.asg 2 (.var 7))
      .nil))
      .nil)
    .nil))))
  (.cons (.asg 2 (.blt .sorted (.cons (.var 2) .nil)))
  (.cons (.frz 2)
  (.cons (.dnew true 4 .nil)
  (.cons (.each 5 (.rng (.cons (.blt .len (.cons (.var 2) .nil)) .nil))
    (.cons (.setx 4 (.ix (.var 2) (.var 5)) (.var 5))
    .nil))
  (.cons (.asg 6 (.lst .nil))
  (.cons (.frz 1)
  (.cons (.each 3 (.of (.var 1))
    (.cons (.app 6 (.blt .tuple (.cons (.lc 8 (.of (.var 2)) .nil (.ix (.var 4) (.call 14 (.cons (.var 3) (.cons (.var 8) .nil))))) .nil)))
    .nil))
  (.cons (.ret (.lst (.cons (.blt .len (.cons (.var 2) .nil)) (.cons (.var 6) .nil))))
  .nil))))))))))))
theorem b_law_regular {X : Cx} {k : Nat} {Γ : List Spc} (g : Gd t_law_regular k Γ (defScope s_law_regular) X) (fn : X.fn = fun _ => true) (L : Γ.length = 22) : PSs X (defBody s_law_regular) (rdS X.K (W Γ ir_law_regular)) :=
  (g.st (g.asg fn (e_lst g.anil))
  (g.st (g.asg fn (g.callN 15 L (g.ac g.int (g.ac g.var (g.ac g.int g.anil)))))
  (g.frz (i := 2)
  (g.st (g.each fn (g.iof g.var)
    (g.st (g.asg fn (g.callN 15 L (g.ac g.int (g.ac (g.add g.var (e_lst (g.ac g.var g.anil))) (g.ac g.int g.anil)))))
    (g.frz (i := 7)
    (g.st (g.iff (e_notn g.var).2
      (g.st (g.app g.var)
      (g.st (g.asg fn g.var) g.nil))
      (g.nil)) g.nil))))
  (g.st (g.asg fn (g.sorted (g.ac g.var g.anil)))
  (g.frz (i := 2)
  (g.st (g.dnew0 fn)
  (g.st (g.each fn (g.irng1 (g.len (g.ac g.var g.anil)))
    (g.st (g.setx (g.ixv g.var) g.var) g.nil))
  (g.st (g.asg fn (e_lst g.anil))
  (g.frz (i := 1)
  (g.st (g.each fn (g.iof g.var)
    (g.st (g.app (g.btup (g.ac (g.lc (g.iof g.var) (fun {_} g => g.yes) (fun {_} g => (g.ixv (g.callN 14 L (g.ac g.var (g.ac g.var g.anil)))))) g.anil))) g.nil))
  (g.st (g.ret (e_lst (g.ac (g.len (g.ac g.var g.anil)) (g.ac g.var g.anil)))) g.nil))))))))))))
abbrev s_law_renumbered : Stmt := topS 28
def t_law_renumbered : Tb := ⟨["one", "names", "found", "k", "image"], fns⟩
theorem sc_law_renumbered : FnScope t_law_renumbered.N ["one", "names"] (defScope s_law_renumbered) := ⟨rfl, rfl, rfl, by decide +kernel, rfl, by decide +kernel, by decide +kernel⟩
def ir_law_renumbered : Ss :=
  (.cons (.asg 2 (.lc 3 (.of (.var 1)) .nil (.var 3)))
  (.cons (.each 3 (.rng (.cons (.blt .len (.cons (.var 1) .nil)) .nil))
    (.cons (.asg 4 (.var 3))
    (.cons (.iff (.cmp .lt (.var 3) (.blt .len (.cons (.var 0) .nil)))
      (.cons (.asg 4 (.ix (.var 0) (.var 3)))
      (.cons (.frz 4)
      .nil))
      .nil)
    (.cons (.setx 2 (.ix (.var 1) (.var 3)) (.ix (.var 1) (.var 4)))
    .nil))))
  (.cons (.ret (.blt .tuple (.cons (.var 2) .nil)))
  .nil)))
theorem b_law_renumbered {X : Cx} {k : Nat} {Γ : List Spc} (g : Gd t_law_renumbered k Γ (defScope s_law_renumbered) X) (fn : X.fn = fun _ => true) (L : Γ.length = 23) : PSs X (defBody s_law_renumbered) (rdS X.K (W Γ ir_law_renumbered)) :=
  (g.st (g.asgLc (g.iof g.var) (fun {_} g => g.yes) (fun {_} g => g.var))
  (g.st (g.each fn (g.irng1 (g.len (g.ac g.var g.anil)))
    (g.st (g.asg fn g.var)
    (g.st (g.iff (g.lt g.var (g.len (g.ac g.var g.anil))).2
      (g.st (g.asg fn (g.ixv g.var))
      (g.frz (i := 4) g.nil))
      (g.nil))
    (g.st (g.setx (g.ixv g.var) (g.ixv g.var)) g.nil))))
  (g.st (g.ret (g.btup (g.ac g.var g.anil))) g.nil)))
abbrev s_law_drawn : Stmt := topS 29
def t_law_drawn : Tb := ⟨["script", "row", "kind", "many", "cells", "blocks", "size", "names", "found", "k", "cell", "one"], fns⟩
theorem sc_law_drawn : FnScope t_law_drawn.N ["script"] (defScope s_law_drawn) := ⟨rfl, rfl, rfl, by decide +kernel, rfl, by decide +kernel, by decide +kernel⟩
def ir_law_drawn : Ss :=
  (.cons (.asg 1 (.call 12 (.cons (.call 11 (.cons (.var 0) (.cons (.cst (.int 0)) .nil))) (.cons (.lst (.cons (.cst (.int 11)) (.cons (.cst (.int 15)) (.cons (.cst (.int 12)) (.cons (.cst (.int 6)) (.cons (.cst (.int 6)) (.cons (.cst (.int 3)) (.cons (.cst (.int 4)) (.cons (.cst (.int 62)) .nil))))))))) .nil))))
  (.cons (.frz 1)
  (.cons (.asg 2 (.ix (.lst (.cons (.cst (.int 0)) (.cons (.cst (.int 0)) (.cons (.cst (.int 1)) (.cons (.cst (.int 1)) (.cons (.cst (.int 2)) (.cons (.cst (.int 3)) (.cons (.cst (.int 4)) (.cons (.cst (.int 6)) (.cons (.cst (.int 5)) (.cons (.cst (.int 5)) (.cons (.cst (.int 5)) .nil)))))))))))) (.ix (.var 1) (.cst (.int 0)))))
  (.cons (.frz 2)
  (.cons (.asg 3 (.bin .add (.ix (.lst (.cons (.cst (.int 2)) (.cons (.cst (.int 3)) (.cons (.cst (.int 4)) (.cons (.cst (.int 2)) (.cons (.cst (.int 3)) (.cons (.cst (.int 1)) .nil))))))) (.ix (.var 1) (.cst (.int 4)))) (.bin .mul (.cst (.int 2)) (.bin .fdiv (.var 2) (.cst (.int 5))))))
  (.cons (.frz 3)
  (.cons (.asg 4 (.lc 9 (.rng (.cons (.var 3) .nil)) .nil (.call 11 (.cons (.var 0) (.cons (.bin .add (.cst (.int 4)) (.var 9)) .nil)))))
  (.cons (.frz 4)
  (.cons (.asg 5 (.lst (.cons (.lst (.cons (.cst (.int 8)) .nil)) (.cons (.lst (.cons (.cst (.int 4)) (.cons (.cst (.int 4)) .nil))) (.cons (.lst (.cons (.cst (.int 4)) (.cons (.cst (.int 2)) (.cons (.cst (.int 2)) .nil)))) (.cons (.lst (.cons (.cst (.int 2)) (.cons (.cst (.int 2)) (.cons (.cst (.int 2)) (.cons (.cst (.int 2)) (.cons (.cst (.int 2)) (.cons (.cst (.int 2)) (.cons (.cst (.int 2)) .nil)))))))) (.cons (.lst (.cons (.cst (.int 16)) (.cons (.cst (.int 2)) .nil))) (.cons (.lst (.cons (.cst (.int 32)) .nil)) (.cons (.lst (.cons (.cst (.int 64)) .nil)) (.cons (.lst (.cons (.cst (.int 8)) (.cons (.cst (.int 4)) .nil))) (.cons (.lst (.cons (.cst (.int 4)) (.cons (.cst (.int 4)) (.cons (.cst (.int 2)) .nil)))) (.cons (.lst (.cons (.cst (.int 16)) .nil)) (.cons (.lst (.cons (.cst (.int 8)) (.cons (.cst (.int 2)) (.cons (.cst (.int 2)) .nil)))) .nil)))))))))))))
  (.cons (.frz 5)
  (.cons (.asg 5 (.ix (.bin .add (.var 5) (.lst (.cons (.lst (.cons (.cst (.int 4)) (.cons (.cst (.int 2)) (.cons (.cst (.int 2)) (.cons (.cst (.int 2)) (.cons (.cst (.int 2)) .nil)))))) .nil))) (.ix (.var 1) (.cst (.int 2)))))
  (.cons (.frz 5)
  (.cons (.asg 6 (.cst (.int 8)))
  (.cons (.iff (.cmp .eq (.var 2) (.cst (.int 0)))
    (.cons (.asg 8 (.lc 10 (.of (.var 4)) .nil (.call 18 (.cons (.var 10) (.cons (.cst (.int 1)) .nil)))))
    (.cons (.frz 8)
    .nil))
    (.cons (.iff (.cmp .eq (.var 2) (.cst (.int 1)))
      (.cons (.asg 6 (.blt .len (.cons (.call 18 (.cons (.cst (.int 0)) (.cons (.bin .add (.cst (.int 1)) (.ix (.var 1) (.cst (.int 1)))) .nil))) .nil)))
      (.cons (.frz 6)
      (.cons (.asg 8 (.lc 10 (.of (.var 4)) .nil (.call 18 (.cons (.var 10) (.cons (.bin .add (.cst (.int 1)) (.ix (.var 1) (.cst (.int 1)))) .nil)))))
      (.cons (.frz 8)
      .nil))))
      (.cons (.iff (.cmp .eq (.var 2) (.cst (.int 2)))
        (.cons (.asg 6 (.blt .sum (.cons (.var 5) .nil)))
        (.cons (.frz 6)
        (.cons (.asg 8 (.lc 10 (.of (.var 4)) .nil (.call 19 (.cons (.var 10) (.cons (.var 5) .nil)))))
        (.cons (.frz 8)
        .nil))))
        (.cons (.iff (.cmp .eq (.var 2) (.cst (.int 3)))
          (.cons (.asg 6 (.ix (.lst (.cons (.cst (.int 4)) (.cons (.cst (.int 8)) (.cons (.cst (.int 16)) (.cons (.cst (.int 8)) (.cons (.cst (.int 32)) (.cons (.cst (.int 64)) .nil))))))) (.ix (.var 1) (.cst (.int 3)))))
          (.cons (.frz 6)
          (.cons (.asg 8 (.lc 10 (.of (.var 4)) .nil (.call 20 (.cons (.var 10) (.cons (.var 6) .nil)))))
          (.cons (.frz 8)
          .nil))))
          (.cons (.iff (.cmp .eq (.var 2) (.cst (.int 4)))
            (.cons (.asgU [6, 8] (.call 22 (.cons (.lc 10 (.of (.var 4)) .nil (.call 18 (.cons (.var 10) (.cons (.cst (.int 1)) .nil)))) .nil)))
            .nil)
            (.cons (.iff (.cmp .eq (.var 2) (.cst (.int 5)))
              (.cons (.asg 8 (.lc 10 (.of (.var 4)) .nil (.call 21 (.cons (.var 10) .nil))))
              (.cons (.frz 8)
              .nil))
              (.cons (.asg 6 (.ix (.lst (.cons (.bin .add (.cst (.int 3)) (.bin .mod (.blt .int (.cons (.ix (.var 1) (.cst (.int 7))) .nil)) (.cst (.int 4)))) (.cons (.bin .add (.cst (.int 3)) (.ix (.var 1) (.cst (.int 7)))) .nil))) (.blt .int (.cons (.cmp .eq (.ix (.var 1) (.cst (.int 3))) (.cst (.int 5))) .nil))))
              (.cons (.frz 6)
              (.cons (.asg 8 (.lc 10 (.of (.var 4)) .nil (.call 17 (.cons (.var 10) (.cons (.var 6) .nil)))))
              (.cons (.frz 8)
              .nil)))))
            .nil))
          .nil))
        .nil))
      .nil))
    .nil))
  (.cons (.asg 6 (.blt .min2 (.cons (.cst (.int 64)) (.cons (.bin .add (.var 6) (.ix (.var 1) (.cst (.int 5)))) .nil))))
  (.cons (.frz 6)
  (.cons (.asg 7 (.blt .tuple (.cons (.lc 9 (.rng (.cons (.var 6) .nil)) .nil (.var 9)) .nil)))
  (.cons (.frz 7)
  (.cons (.iff (.cmp .gt (.ix (.var 1) (.cst (.int 6))) (.cst (.int 0)))
    (.cons (.asg 7 (.call 17 (.cons (.call 11 (.cons (.var 0) (.cons (.cst (.int 1)) .nil))) (.cons (.var 6) .nil))))
    (.cons (.frz 7)
    .nil))
    .nil)
  (.cons (.ret (.lst (.cons (.var 6) (.cons (.lc 11 (.of (.var 8)) .nil (.call 23 (.cons (.var 11) (.cons (.var 7) .nil)))) .nil))))
  .nil))))))))))))))))))))
theorem b_law_drawn {X : Cx} {k : Nat} {Γ : List Spc} (g : Gd t_law_drawn k Γ (defScope s_law_drawn) X) (fn : X.fn = fun _ => true) (L : Γ.length = 24) : PSs X (defBody s_law_drawn) (rdS X.K (W Γ ir_law_drawn)) :=
  (g.st (g.asg fn (g.callN 12 L (g.ac (g.callN 11 L (g.ac g.var (g.ac g.int g.anil))) (g.ac (e_lst (g.ac g.int (g.ac g.int (g.ac g.int (g.ac g.int (g.ac g.int (g.ac g.int (g.ac g.int (g.ac g.int g.anil))))))))) g.anil))))
  (g.frz (i := 1)
  (g.st (g.asg fn (g.ix (e_lst (g.ac g.int (g.ac g.int (g.ac g.int (g.ac g.int (g.ac g.int (g.ac g.int (g.ac g.int (g.ac g.int (g.ac g.int (g.ac g.int (g.ac g.int g.anil)))))))))))) (g.ixv g.int)))
  (g.frz (i := 2)
  (g.st (g.asg fn (g.add (g.ix (e_lst (g.ac g.int (g.ac g.int (g.ac g.int (g.ac g.int (g.ac g.int (g.ac g.int g.anil))))))) (g.ixv g.int)) (g.mul g.int (g.fdiv g.var g.int))))
  (g.frz (i := 3)
  (g.st (g.asgLc (g.irng1 g.var) (fun {_} g => g.yes) (fun {_} g => (g.callN 11 L (g.ac g.var (g.ac (g.add g.int g.var) g.anil)))))
  (g.frz (i := 4)
  (g.st (g.asg fn (e_lst (g.ac (e_lst (g.ac g.int g.anil)) (g.ac (e_lst (g.ac g.int (g.ac g.int g.anil))) (g.ac (e_lst (g.ac g.int (g.ac g.int (g.ac g.int g.anil)))) (g.ac (e_lst (g.ac g.int (g.ac g.int (g.ac g.int (g.ac g.int (g.ac g.int (g.ac g.int (g.ac g.int g.anil)))))))) (g.ac (e_lst (g.ac g.int (g.ac g.int g.anil))) (g.ac (e_lst (g.ac g.int g.anil)) (g.ac (e_lst (g.ac g.int g.anil)) (g.ac (e_lst (g.ac g.int (g.ac g.int g.anil))) (g.ac (e_lst (g.ac g.int (g.ac g.int (g.ac g.int g.anil)))) (g.ac (e_lst (g.ac g.int g.anil)) (g.ac (e_lst (g.ac g.int (g.ac g.int (g.ac g.int g.anil)))) g.anil)))))))))))))
  (g.frz (i := 5)
  (g.st (g.asg fn (g.ix (g.add g.var (e_lst (g.ac (e_lst (g.ac g.int (g.ac g.int (g.ac g.int (g.ac g.int (g.ac g.int g.anil)))))) g.anil))) (g.ixv g.int)))
  (g.frz (i := 5)
  (g.st (g.asg fn g.int)
  (g.st (g.iff (g.eq g.var g.int).2
    (g.st (g.asgLc (g.iof g.var) (fun {_} g => g.yes) (fun {_} g => (g.callN 18 L (g.ac g.var (g.ac g.int g.anil)))))
    (g.frz (i := 8) g.nil))
    (g.st (g.iff (g.eq g.var g.int).2
      (g.st (g.asg fn (g.len (g.ac (g.callN 18 L (g.ac g.int (g.ac (g.add g.int (g.ixv g.int)) g.anil))) g.anil)))
      (g.frz (i := 6)
      (g.st (g.asgLc (g.iof g.var) (fun {_} g => g.yes) (fun {_} g => (g.callN 18 L (g.ac g.var (g.ac (g.add g.int (g.ixv g.int)) g.anil)))))
      (g.frz (i := 8) g.nil))))
      (g.st (g.iff (g.eq g.var g.int).2
        (g.st (g.asg fn (g.sum (g.ac g.var g.anil)))
        (g.frz (i := 6)
        (g.st (g.asgLc (g.iof g.var) (fun {_} g => g.yes) (fun {_} g => (g.callN 19 L (g.ac g.var (g.ac g.var g.anil)))))
        (g.frz (i := 8) g.nil))))
        (g.st (g.iff (g.eq g.var g.int).2
          (g.st (g.asg fn (g.ix (e_lst (g.ac g.int (g.ac g.int (g.ac g.int (g.ac g.int (g.ac g.int (g.ac g.int g.anil))))))) (g.ixv g.int)))
          (g.frz (i := 6)
          (g.st (g.asgLc (g.iof g.var) (fun {_} g => g.yes) (fun {_} g => (g.callN 20 L (g.ac g.var (g.ac g.var g.anil)))))
          (g.frz (i := 8) g.nil))))
          (g.st (g.iff (g.eq g.var g.int).2
            (g.st (g.asgU (g.tcons fn (g.tcons fn g.tnil)) (g.callN 22 L (g.ac (g.lc (g.iof g.var) (fun {_} g => g.yes) (fun {_} g => (g.callN 18 L (g.ac g.var (g.ac g.int g.anil))))) g.anil))) g.nil)
            (g.st (g.iff (g.eq g.var g.int).2
              (g.st (g.asgLc (g.iof g.var) (fun {_} g => g.yes) (fun {_} g => (g.callN 21 L (g.ac g.var g.anil))))
              (g.frz (i := 8) g.nil))
              (g.st (g.asg fn (g.ix (e_lst (g.ac (g.add g.int (g.mod (g.bint (g.ac (g.ixv g.int) g.anil)) g.int)) (g.ac (g.add g.int (g.ixv g.int)) g.anil))) (g.bint (g.ac (g.eq (g.ixv g.int) g.int).1 g.anil))))
              (g.frz (i := 6)
              (g.st (g.asgLc (g.iof g.var) (fun {_} g => g.yes) (fun {_} g => (g.callN 17 L (g.ac g.var (g.ac g.var g.anil)))))
              (g.frz (i := 8) g.nil))))) g.nil)) g.nil)) g.nil)) g.nil)) g.nil))
  (g.st (g.asg fn (g.min2 (g.ac g.int (g.ac (g.add g.var (g.ixv g.int)) g.anil))))
  (g.frz (i := 6)
  (g.st (g.asg fn (g.btup (g.ac (g.lc (g.irng1 g.var) (fun {_} g => g.yes) (fun {_} g => g.var)) g.anil)))
  (g.frz (i := 7)
  (g.st (g.iff (g.gt (g.ixv g.int) g.int).2
    (g.st (g.asg fn (g.callN 17 L (g.ac (g.callN 11 L (g.ac g.var (g.ac g.int g.anil))) (g.ac g.var g.anil))))
    (g.frz (i := 7) g.nil))
    (g.nil))
  (g.st (g.ret (e_lst (g.ac g.var (g.ac (g.lc (g.iof g.var) (fun {_} g => g.yes) (fun {_} g => (g.callN 23 L (g.ac g.var (g.ac g.var g.anil))))) g.anil)))) g.nil))))))))))))))))))))
abbrev s_law_same : Stmt := topS 30
def t_law_same : Tb := ⟨["told", "due"], fns⟩
theorem sc_law_same : FnScope t_law_same.N ["told", "due"] (defScope s_law_same) := ⟨rfl, rfl, rfl, by decide +kernel, rfl, by decide +kernel, by decide +kernel⟩
def ir_law_same : Ss :=
  (.cons (.ret (.cmp .eq (.blt .repr (.cons (.var 0) .nil)) (.blt .repr (.cons (.var 1) .nil))))
  .nil)
theorem b_law_same {X : Cx} {k : Nat} {Γ : List Spc} (g : Gd t_law_same k Γ (defScope s_law_same) X) (fn : X.fn = fun _ => true) (L : Γ.length = 25) : PSs X (defBody s_law_same) (rdS X.K (W Γ ir_law_same)) :=
  (g.st (g.ret (g.eq (g.repr (g.ac g.var g.anil)) (g.repr (g.ac g.var g.anil))).1) g.nil)
abbrev s_law_handed : Stmt := topS 31
def t_law_handed : Tb := ⟨["table", "is_list", "member"], fns⟩
theorem sc_law_handed : FnScope t_law_handed.N ["table", "is_list"] (defScope s_law_handed) := ⟨rfl, rfl, rfl, by decide +kernel, rfl, by decide +kernel, by decide +kernel⟩
def ir_law_handed : Ss :=
  (.cons (.iff (.tru (.var 1))
    (.cons (.ret (.lc 2 (.of (.var 0)) .nil (.blt .list (.cons (.var 2) .nil))))
    .nil)
    .nil)
  (.cons (.ret (.blt .tuple (.cons (.lc 2 (.of (.var 0)) .nil (.blt .tuple (.cons (.var 2) .nil))) .nil)))
  .nil))
theorem b_law_handed {X : Cx} {k : Nat} {Γ : List Spc} (g : Gd t_law_handed k Γ (defScope s_law_handed) X) (fn : X.fn = fun _ => true) (L : Γ.length = 26) : PSs X (defBody s_law_handed) (rdS X.K (W Γ ir_law_handed)) :=
  (g.st (g.iff (t_tru g.var (fun _ => rfl))
    (g.st (g.ret (g.lc (g.iof g.var) (fun {_} g => g.yes) (fun {_} g => (g.blst (g.ac g.var g.anil))))) g.nil)
    (g.nil))
  (g.st (g.ret (g.btup (g.ac (g.lc (g.iof g.var) (fun {_} g => g.yes) (fun {_} g => (g.btup (g.ac g.var g.anil)))) g.anil))) g.nil))
abbrev s_law_left : Stmt := topS 32
def t_law_left : Tb := ⟨["table", "one", "member"], fns⟩
theorem sc_law_left : FnScope t_law_left.N ["table", "one"] (defScope s_law_left) := ⟨rfl, rfl, rfl, by decide +kernel, rfl, by decide +kernel, by decide +kernel⟩
def ir_law_left : Ss :=
  (.cons (.ret (.lc 2 (.of (.var 0)) .nil (.call 14 (.cons (.var 1) (.cons (.var 2) .nil)))))
  .nil)
theorem b_law_left {X : Cx} {k : Nat} {Γ : List Spc} (g : Gd t_law_left k Γ (defScope s_law_left) X) (fn : X.fn = fun _ => true) (L : Γ.length = 27) : PSs X (defBody s_law_left) (rdS X.K (W Γ ir_law_left)) :=
  (g.st (g.ret (g.lc (g.iof g.var) (fun {_} g => g.yes) (fun {_} g => (g.callN 14 L (g.ac g.var (g.ac g.var g.anil)))))) g.nil)
abbrev s_law_added : Stmt := topS 33
def t_law_added : Tb := ⟨["table", "lower", "known", "member", "one", "right"], fns⟩
theorem sc_law_added : FnScope t_law_added.N ["table", "lower"] (defScope s_law_added) := ⟨rfl, rfl, rfl, by decide +kernel, rfl, by decide +kernel, by decide +kernel⟩
def ir_law_added : Ss :=
  (.cons (.dnew true 2 .nil)
  (.cons (.each 3 (.of (.var 1))
    (.cons (.setx 2 (.var 3) (.cst (.bl true)))
    .nil))
  (.cons (.each 4 (.of (.var 0))
    (.cons (.iff (.and (.cmp .notin (.var 4) (.var 2)) (.cmp .isin (.call 14 (.cons (.var 4) (.cons (.var 4) .nil))) (.var 2)))
      (.cons (.dnew true 5 .nil)
      (.cons (.each 3 (.of (.var 1))
        (.cons (.setx 5 (.call 14 (.cons (.var 3) (.cons (.var 4) .nil))) (.cst (.bl true)))
        .nil))
      (.cons (.iff (.cmp .eq (.blt .len (.cons (.lc 3 (.of (.call 27 (.cons (.var 1) (.cons (.var 4) .nil)))) (.cons (.cmp .notin (.var 3) (.var 5)) .nil) (.var 3)) .nil)) (.cst (.int 0)))
        (.cons (.ret (.var 4))
        .nil)
        .nil)
      .nil)))
      .nil)
    .nil))
  (.cons (.ret (.cst .non))
  .nil))))
theorem b_law_added {X : Cx} {k : Nat} {Γ : List Spc} (g : Gd t_law_added k Γ (defScope s_law_added) X) (fn : X.fn = fun _ => true) (L : Γ.length = 28) : PSs X (defBody s_law_added) (rdS X.K (W Γ ir_law_added)) :=
  (g.st (g.dnew0 fn)
  (g.st (g.each fn (g.iof g.var)
    (g.st (g.setx g.var g.bl) g.nil))
  (g.st (g.each fn (g.iof g.var)
    (g.st (g.iff (t_and (g.ninv g.var).2 (pw_and1 (g.inv (g.callN 14 L (g.ac g.var (g.ac g.var g.anil)))).2)).pt
      (g.st (g.dnew0 fn)
      (g.st (g.each fn (g.iof g.var)
        (g.st (g.setx (g.callN 14 L (g.ac g.var (g.ac g.var g.anil))) g.bl) g.nil))
      (g.st (g.iff (g.eq (g.len (g.ac (g.lc (g.iof (g.callN 27 L (g.ac g.var (g.ac g.var g.anil)))) (fun {_} g => (g.one (g.ninv g.var).2)) (fun {_} g => g.var)) g.anil)) g.int).2
        (g.st g.retv g.nil)
        (g.nil)) g.nil)))
      (g.nil)) g.nil))
  (g.st (g.ret g.non) g.nil))))
abbrev s_law_chain : Stmt := topS 34
def t_law_chain : Tb := ⟨["table", "point", "chain", "turn", "one", "member"], fns⟩
theorem sc_law_chain : FnScope t_law_chain.N ["table", "point"] (defScope s_law_chain) := ⟨rfl, rfl, rfl, by decide +kernel, rfl, by decide +kernel, by decide +kernel⟩
def ir_law_chain : Ss :=
  (.cons (.asg 2 (.lst (.cons (.lc 5 (.of (.var 0)) (.cons (.cmp .eq (.ix (.var 5) (.var 1)) (.var 1)) .nil) (.var 5)) .nil)))
  (.cons (.each 3 (.rng (.cons (.cst (.int 8)) .nil))
    (.cons (.asg 4 (.call 28 (.cons (.var 0) (.cons (.ix (.var 2) (.neg (.cst (.int 1)))) .nil))))
    (.cons (.frz 4)
    (.cons (.iff (.isn false (.var 4))
      (.cons .brk
      .nil)
      .nil)
    (.cons (.app 2 (.blt .sorted (.cons (.bin .add (.ix (.var 2) (.neg (.cst (.int 1)))) (.call 27 (.cons (.ix (.var 2) (.neg (.cst (.int 1)))) (.cons (.var 4) .nil)))) .nil)))
    .nil)))))
  (.cons (.ret (.var 2))
  .nil)))
theorem b_law_chain {X : Cx} {k : Nat} {Γ : List Spc} (g : Gd t_law_chain k Γ (defScope s_law_chain) X) (fn : X.fn = fun _ => true) (L : Γ.length = 29) : PSs X (defBody s_law_chain) (rdS X.K (W Γ ir_law_chain)) :=
  (g.st (g.asg fn (e_lst (g.ac (g.lc (g.iof g.var) (fun {_} g => (g.one (g.eq (g.ixv g.var) g.var).2)) (fun {_} g => g.var)) g.anil)))
  (g.st (g.each fn (g.irng1 g.int)
    (g.st (g.asg fn (g.callN 28 L (g.ac g.var (g.ac (g.ixv (e_neg g.int)) g.anil))))
    (g.frz (i := 4)
    (g.st (g.iff (e_isn g.var).2
      (g.st g.brk g.nil)
      (g.nil))
    (g.st (g.app (g.sorted (g.ac (g.add (g.ixv (e_neg g.int)) (g.callN 27 L (g.ac (g.ixv (e_neg g.int)) (g.ac g.var g.anil)))) g.anil))) g.nil)))))
  (g.st g.retv g.nil)))
abbrev s_law_is_tables : Stmt := topS 35
def t_law_is_tables : Tb := ⟨["told", "due", "k", "j", "member", "entry"], fns⟩
theorem sc_law_is_tables : FnScope t_law_is_tables.N ["told", "due"] (defScope s_law_is_tables) := ⟨rfl, rfl, rfl, by decide +kernel, rfl, by decide +kernel, by decide +kernel⟩
def ir_law_is_tables : Ss :=
  (.cons (.iff (.or (.not (.tru (.isi (.var 0) [.tuple]))) (.cmp .ne (.blt .len (.cons (.var 0) .nil)) (.blt .len (.cons (.var 1) .nil))))
    (.cons (.ret (.cst (.bl false)))
    .nil)
    .nil)
  (.cons (.each 2 (.rng (.cons (.blt .len (.cons (.var 1) .nil)) .nil))
    (.cons (.iff (.or (.not (.tru (.isi (.ix (.var 0) (.var 2)) [.tuple]))) (.cmp .ne (.blt .len (.cons (.ix (.var 0) (.var 2)) .nil)) (.blt .len (.cons (.ix (.var 1) (.var 2)) .nil))))
      (.cons (.ret (.cst (.bl false)))
      .nil)
      .nil)
    (.cons (.each 3 (.rng (.cons (.blt .len (.cons (.ix (.var 1) (.var 2)) .nil)) .nil))
      (.cons (.asg 4 (.ix (.ix (.var 0) (.var 2)) (.var 3)))
      (.cons (.frz 4)
      (.cons (.iff (.or (.not (.tru (.isi (.var 4) [.tuple]))) (.cmp .ne (.blt .len (.cons (.var 4) .nil)) (.blt .len (.cons (.ix (.ix (.var 1) (.var 2)) (.var 3)) .nil))))
        (.cons (.ret (.cst (.bl false)))
        .nil)
        .nil)
      (.cons (.each 5 (.of (.var 4))
        (.cons (.iff (.not (.tru (.call 10 (.cons (.var 5) .nil))))
          (.cons (.ret (.cst (.bl false)))
          .nil)
          .nil)
        .nil))
      (.cons (.iff (.cmp .ne (.var 4) (.ix (.ix (.var 1) (.var 2)) (.var 3)))
        (.cons (.ret (.cst (.bl false)))
        .nil)
        .nil)
      .nil))))))
    .nil)))
  (.cons (.ret (.cst (.bl true)))
  .nil)))
theorem b_law_is_tables {X : Cx} {k : Nat} {Γ : List Spc} (g : Gd t_law_is_tables k Γ (defScope s_law_is_tables) X) (fn : X.fn = fun _ => true) (L : Γ.length = 30) : PSs X (defBody s_law_is_tables) (rdS X.K (W Γ ir_law_is_tables)) :=
  (g.st (g.iff (t_or (t_not (t_tru (g.isi1 .tuple g.var) (fun _ => rfl))) (pw_or1 (g.ne (g.len (g.ac g.var g.anil)) (g.len (g.ac g.var g.anil))).2)).pt
    (g.st (g.ret g.bl) g.nil)
    (g.nil))
  (g.st (g.each fn (g.irng1 (g.len (g.ac g.var g.anil)))
    (g.st (g.iff (t_or (t_not (t_tru (g.isi1 .tuple (g.ixv g.var)) (fun _ => rfl))) (pw_or1 (g.ne (g.len (g.ac (g.ixv g.var) g.anil)) (g.len (g.ac (g.ixv g.var) g.anil))).2)).pt
      (g.st (g.ret g.bl) g.nil)
      (g.nil))
    (g.st (g.each fn (g.irng1 (g.len (g.ac (g.ixv g.var) g.anil)))
      (g.st (g.asg fn (g.ix (g.ixv g.var) g.var))
      (g.frz (i := 4)
      (g.st (g.iff (t_or (t_not (t_tru (g.isi1 .tuple g.var) (fun _ => rfl))) (pw_or1 (g.ne (g.len (g.ac g.var g.anil)) (g.len (g.ac (g.ix (g.ixv g.var) g.var) g.anil))).2)).pt
        (g.st (g.ret g.bl) g.nil)
        (g.nil))
      (g.st (g.each fn (g.iof g.var)
        (g.st (g.iff (t_not (t_tru (g.callN 10 L (g.ac g.var g.anil)) (fun _ => rfl)))
          (g.st (g.ret g.bl) g.nil)
          (g.nil)) g.nil))
      (g.st (g.iff (g.ne g.var (g.ix (g.ixv g.var) g.var)).2
        (g.st (g.ret g.bl) g.nil)
        (g.nil)) g.nil)))))) g.nil)))
  (g.st (g.ret g.bl) g.nil)))
abbrev s_law_asks : Stmt := topS 36
def t_law_asks : Tb := ⟨["table", "point", "is_list", "handed", "due"], fns⟩
theorem sc_law_asks : FnScope t_law_asks.N ["table", "point", "is_list"] (defScope s_law_asks) := ⟨rfl, rfl, rfl, by decide +kernel, rfl, by decide +kernel, by decide +kernel⟩
def ir_law_asks : Ss :=
  (.cons (.asg 3 (.call 26 (.cons (.var 0) (.cons (.var 2) .nil))))
  (.cons (.frz 3)
  (.cons (.asg 4 (.call 29 (.cons (.var 0) (.cons (.var 1) .nil))))
  (.cons (.frz 4)
  (.cons (.iff (.cmp .ne (.ix (.var 4) (.neg (.cst (.int 1)))) (.var 0))
    (.cons (.ret (.cst (.bl false)))
    .nil)
    .nil)
  (.cons (.ret (.and (.call 30 (.cons (.call 9 (.cons (.var 3) (.cons (.var 1) .nil))) (.cons (.var 4) .nil))) (.call 25 (.cons (.var 3) (.cons (.call 26 (.cons (.var 0) (.cons (.var 2) .nil))) .nil)))))
  .nil))))))
theorem b_law_asks {X : Cx} {k : Nat} {Γ : List Spc} (g : Gd t_law_asks k Γ (defScope s_law_asks) X) (fn : X.fn = fun _ => true) (L : Γ.length = 31) : PSs X (defBody s_law_asks) (rdS X.K (W Γ ir_law_asks)) :=
  (g.st (g.asg fn (g.callN 26 L (g.ac g.var (g.ac g.var g.anil))))
  (g.frz (i := 3)
  (g.st (g.asg fn (g.callN 29 L (g.ac g.var (g.ac g.var g.anil))))
  (g.frz (i := 4)
  (g.st (g.iff (g.ne (g.ixv (e_neg g.int)) g.var).2
    (g.st (g.ret g.bl) g.nil)
    (g.nil))
  (g.st (g.ret (e_and (g.callN 30 L (g.ac (g.callN 9 L (g.ac g.var (g.ac g.var g.anil))) (g.ac g.var g.anil))) (pe_one (g.callN 25 L (g.ac g.var (g.ac (g.callN 26 L (g.ac g.var (g.ac g.var g.anil))) g.anil)))))) g.nil))))))
abbrev s_law : Stmt := topS 37
def t_law : Tb := ⟨["script", "table", "row", "plain", "first", "second", "fixing", "size", "drawn", "member", "k"], fns⟩
theorem sc_law : FnScope t_law.N ["script"] (defScope s_law) := ⟨rfl, rfl, rfl, by decide +kernel, rfl, by decide +kernel, by decide +kernel⟩
def ir_law : Ss :=
  (.cons (.asgU [7, 8] (.call 24 (.cons (.var 0) .nil)))
  (.cons (.asg 1 (.ix (.call 16 (.cons (.var 7) (.cons (.var 8) (.cons (.cst (.int 128)) .nil)))) (.cst (.int 1))))
  (.cons (.frz 1)
  (.cons (.asg 2 (.call 12 (.cons (.call 11 (.cons (.var 0) (.cons (.cst (.int 2)) .nil))) (.cons (.lst (.cons (.cst (.int 64)) (.cons (.cst (.int 64)) (.cons (.cst (.int 2)) (.cons (.cst (.int 2)) .nil))))) .nil))))
  (.cons (.frz 2)
  (.cons (.asg 3 (.blt .tuple (.cons (.lc 10 (.rng (.cons (.var 7) .nil)) .nil (.var 10)) .nil)))
  (.cons (.frz 3)
  (.cons (.asg 4 (.bin .mod (.blt .int (.cons (.ix (.var 2) (.cst (.int 0))) .nil)) (.var 7)))
  (.cons (.frz 4)
  (.cons (.asg 5 (.bin .mod (.blt .int (.cons (.ix (.var 2) (.cst (.int 1))) .nil)) (.var 7)))
  (.cons (.frz 5)
  (.cons (.iff (.or (.not (.tru (.call 31 (.cons (.var 1) (.cons (.var 4) (.cons (.cmp .eq (.ix (.var 2) (.cst (.int 2))) (.cst (.int 1))) .nil)))))) (.not (.tru (.call 31 (.cons (.var 1) (.cons (.var 5) (.cons (.cmp .eq (.ix (.var 2) (.cst (.int 3))) (.cst (.int 1))) .nil)))))))
    (.cons (.ret (.cst (.bl false)))
    .nil)
    .nil)
  (.cons (.asg 6 (.lc 9 (.of (.var 1)) (.cons (.cmp .eq (.ix (.var 9) (.var 4)) (.var 4)) .nil) (.var 9)))
  (.cons (.frz 6)
  (.cons (.iff (.or (.not (.tru (.call 31 (.cons (.var 6) (.cons (.var 4) (.cons (.cmp .eq (.ix (.var 2) (.cst (.int 3))) (.cst (.int 1))) .nil)))))) (.not (.tru (.call 31 (.cons (.var 6) (.cons (.var 5) (.cons (.cmp .eq (.ix (.var 2) (.cst (.int 2))) (.cst (.int 1))) .nil)))))))
    (.cons (.ret (.cst (.bl false)))
    .nil)
    .nil)
  (.cons (.iff (.not (.tru (.call 30 (.cons (.call 9 (.cons (.lst (.cons (.blt .list (.cons (.var 3) .nil)) .nil)) (.cons (.var 4) .nil))) (.cons (.lst (.cons (.lst (.cons (.var 3) .nil)) .nil)) .nil)))))
    (.cons (.ret (.cst (.bl false)))
    .nil)
    .nil)
  (.cons (.ret (.call 31 (.cons (.var 1) (.cons (.var 4) (.cons (.cst (.bl false)) .nil)))))
  .nil)))))))))))))))))
theorem b_law {X : Cx} {k : Nat} {Γ : List Spc} (g : Gd t_law k Γ (defScope s_law) X) (fn : X.fn = fun _ => true) (L : Γ.length = 32) : PSs X (defBody s_law) (rdS X.K (W Γ ir_law)) :=
  (g.st (g.asgU (g.tcons fn (g.tcons fn g.tnil)) (g.callN 24 L (g.ac g.var g.anil)))
  (g.st (g.asg fn (g.ix (g.callN 16 L (g.ac g.var (g.ac g.var (g.ac g.int g.anil)))) g.int))
  (g.frz (i := 1)
  (g.st (g.asg fn (g.callN 12 L (g.ac (g.callN 11 L (g.ac g.var (g.ac g.int g.anil))) (g.ac (e_lst (g.ac g.int (g.ac g.int (g.ac g.int (g.ac g.int g.anil))))) g.anil))))
  (g.frz (i := 2)
  (g.st (g.asg fn (g.btup (g.ac (g.lc (g.irng1 g.var) (fun {_} g => g.yes) (fun {_} g => g.var)) g.anil)))
  (g.frz (i := 3)
  (g.st (g.asg fn (g.mod (g.bint (g.ac (g.ixv g.int) g.anil)) g.var))
  (g.frz (i := 4)
  (g.st (g.asg fn (g.mod (g.bint (g.ac (g.ixv g.int) g.anil)) g.var))
  (g.frz (i := 5)
  (g.st (g.iff (t_or (t_not (t_tru (g.callN 31 L (g.ac g.var (g.ac g.var (g.ac (g.eq (g.ixv g.int) g.int).1 g.anil)))) (fun _ => rfl))) (pw_or1 (t_not (t_tru (g.callN 31 L (g.ac g.var (g.ac g.var (g.ac (g.eq (g.ixv g.int) g.int).1 g.anil)))) (fun _ => rfl))))).pt
    (g.st (g.ret g.bl) g.nil)
    (g.nil))
  (g.st (g.asgLc (g.iof g.var) (fun {_} g => (g.one (g.eq (g.ixv g.var) g.var).2)) (fun {_} g => g.var))
  (g.frz (i := 6)
  (g.st (g.iff (t_or (t_not (t_tru (g.callN 31 L (g.ac g.var (g.ac g.var (g.ac (g.eq (g.ixv g.int) g.int).1 g.anil)))) (fun _ => rfl))) (pw_or1 (t_not (t_tru (g.callN 31 L (g.ac g.var (g.ac g.var (g.ac (g.eq (g.ixv g.int) g.int).1 g.anil)))) (fun _ => rfl))))).pt
    (g.st (g.ret g.bl) g.nil)
    (g.nil))
  (g.st (g.iff (t_not (t_tru (g.callN 30 L (g.ac (g.callN 9 L (g.ac (e_lst (g.ac (g.blst (g.ac g.var g.anil)) g.anil)) (g.ac g.var g.anil))) (g.ac (e_lst (g.ac (e_lst (g.ac g.var g.anil)) g.anil)) g.anil))) (fun _ => rfl)))
    (g.st (g.ret g.bl) g.nil)
    (g.nil))
  (g.st (g.ret (g.callN 31 L (g.ac g.var (g.ac g.var (g.ac g.bl g.anil))))) g.nil)))))))))))))))))
end K45

set_option Elab.async false
set_option linter.all false
set_option maxRecDepth 100000
set_option maxHeartbeats 4000000
/-! K45b: defs that k48 has as well. -/
namespace K45
open PySem
open L2
open Ir
open Gp
open Pm
open Kb
theorem w_identity {Γ : List Spc} : Ans Γ 1 1 ir_identity S_identity := by
  rintro as R ⟨n, rfl, hn, q⟩
  refine ⟨rfl, n, rfl, by omega, by omega, .inr rfl, ?_⟩
  have e : encI (idl n) = .tuple ((List.range (n : Int).toNat).map fun k : Nat => PyData.int (k : Int)) := by
    rw [Int.toNat_natCast]
    unfold encI idl
    rw [List.map_map]
    rfl
  rw [e] at q
  exact q
theorem w_compose {Γ : List Spc} : Ans Γ 2 3 ir_compose S_compose := by
  rintro as R ⟨a, b, rfl, h, hb, q⟩
  refine ⟨rfl, ?_⟩
  exact comp_go h hb (fun d P p => p) (fun e P h0 h1 p => ⟨_, at_enc h0 h1, p⟩) ⟨.inr rfl, q⟩
theorem w_law_compose {Γ : List Spc} : Ans Γ 2 3 ir_law_compose S_compose := by
  rintro as R ⟨a, b, rfl, h, hb, q⟩
  refine ⟨rfl, ?_⟩
  exact comp_go h hb (fun d P p => p) (fun e P h0 h1 p => ⟨_, at_enc h0 h1, p⟩) ⟨.inr rfl, q⟩
theorem w_cell {Γ : List Spc} : Ans Γ 2 4 ir_law_cell S_cell := by
  rintro as R ⟨ns, k, rfl, hk, q⟩
  refine ⟨rfl, _, rfl, ite3 (fun c => ?_) (fun _ => ?_)⟩
  · have c : k < (((ns.map PyData.int).length : Nat) : Int) := c
    rw [List.length_map] at c
    exact ⟨_, at_enc hk c, .inr rfl, q _⟩
  · refine ⟨(fun z => nomatch z), fun j ρ => ∃ (s : Int) (s3 : Sl), ρ = [.sc ns, .fz (.int k), .fz (.int s), s3] ∧ 0 ≤ s ∧ s < 1000003, ⟨17, .un, rfl, by decide, by decide⟩, ?_, ?_⟩
    · rintro j d ρ hjd ⟨s, s3, rfl, h0, h1⟩
      obtain ⟨e, _, rfl⟩ := List.mem_map.mp (List.mem_of_getElem? hjd)
      exact ⟨mulR (by decide) (by decide), by decide, by decide, _, _, rfl, Int.emod_nonneg _ (by decide), Int.emod_lt_of_pos _ (by decide)⟩
    · rintro ρ ⟨s, s3, rfl, h0, h1⟩
      exact ⟨mulL (by omega) (by omega), mulR (by decide) (by decide), by decide, .inr rfl, q _⟩
theorem w_digits {Γ : List Spc} : Ans Γ 2 9 ir_law_digits S_digits := by
  rintro as R ⟨c, sz, rfl, hl, hs, q⟩
  refine ⟨rfl, ?_⟩
  have pw : CPow 10 18 := ⟨by decide, by decide, by decide⟩
  refine ⟨(fun z => nomatch z), fun j ρ => ∃ (t : Int) (s3 : Sl), ρ = [.fz (.int c), .sh (sz.map .int), .fz (.int t), s3, .un, .un, .un, .un, .un] ∧ 0 < t, ⟨1, .un, rfl, by decide⟩, ?_, ?_⟩
  · rintro j d ρ hjd ⟨t, s3, rfl, ht⟩
    obtain ⟨s, hsj, rfl⟩ := ints_at hjd
    obtain ⟨p0, p1⟩ := hs s (List.mem_of_getElem? hsj)
    exact ⟨mulR (by omega) (by omega), _, _, rfl, Int.mul_pos ht p0⟩
  · rintro ρ ⟨t, s3, rfl, ht⟩
    refine ⟨_, rfl, s0, pw, ⟨_, rfl, ite3 (fun _ => ?_) (fun _ => ?_)⟩⟩
    · refine ⟨pw, ht, ?_⟩
      refine ⟨(fun z => nomatch z), fun j ρ => ∃ (ds : List Int) (r : Int) (s3 : Sl), ρ = [.fz (.int c), .sh (sz.map .int), .fz (.int t), s3, .ol (ds.map .int), .un, .un, .fz (.int r), .un] ∧ Dg (sz.take j) ds, ⟨[], _, s3, rfl, Dg.nil⟩, ?_, ?_⟩
      · rintro j d ρ hjd ⟨ds, r, s3, rfl, hd⟩
        obtain ⟨s, hsj, rfl⟩ := ints_at hjd
        obtain ⟨p0, p1⟩ := hs s (List.mem_of_getElem? hsj)
        have dl := hd.1
        rw [List.length_take] at dl
        refine ⟨small' (by rw [List.length_map]; omega), p0, _, rfl, div_ok p0 p1, ?_⟩
        exact ⟨ds ++ [r % s], _, _, by rw [List.map_append]; rfl, hd.snoc hsj (Int.emod_nonneg _ (by omega)) (Int.emod_lt_of_pos _ p0)⟩
      · rintro ρ ⟨ds, r, s3, rfl, hd⟩
        rw [List.length_map, List.take_length] at hd
        exact q ds hd
    · refine ⟨by decide, ?_⟩
      refine ⟨by omega, by rw [List.length_map]; omega, (fun z => nomatch z), fun j ρ => ∃ (ds : List Int) (sd : Int) (s3 s6 s8 : Sl), ρ = [.fz (.int c), .sh (sz.map .int), .fz (.int t), s3, .ol (ds.map .int), .fz (.int sd), s6, .un, s8] ∧ Dg (sz.take j) ds ∧ 0 ≤ sd ∧ sd < 2147483647,
        ⟨[], _, s3, .un, .un, rfl, Dg.nil, Int.emod_nonneg _ (by decide), Int.lt_trans (Int.emod_lt_of_pos _ (by decide)) (by decide)⟩, ?_, ?_⟩
      · rintro j d ρ hjd ⟨ds, sd, s3, s6, s8, rfl, hd, h0, h1⟩
        obtain ⟨hj, rfl⟩ := range_at hjd
        rw [List.length_map] at hj
        obtain ⟨s, hsj⟩ : ∃ s, sz[j]? = some s := ⟨_, List.getElem?_eq_getElem hj⟩
        obtain ⟨p0, p1⟩ := hs s (List.mem_of_getElem? hsj)
        have dl := hd.1
        rw [List.length_take] at dl
        have n0 := Int.emod_nonneg (sd * 48271 + 974711 * (j : Int) + 12345) (show (2147483647 : Int) ≠ 0 by decide)
        have n1 := Int.emod_lt_of_pos (sd * 48271 + 974711 * (j : Int) + 12345) (show (0 : Int) < 2147483647 by decide)
        refine ⟨mulR (by decide) (by decide), mulL (by decide) (by decide), by decide, ?_⟩
        refine ⟨div_ok (by decide) (by decide), mulL n0 (Int.lt_trans n1 (by decide)), by decide, ?_⟩
        refine ⟨small' (by rw [List.length_map]; omega), div_ok (by decide) (by decide), _, at_nat (ints_get hsj), p0, _, rfl, ?_⟩
        exact ⟨ds ++ [_ % s], _, _, _, _, by rw [List.map_append]; rfl, hd.snoc hsj (Int.emod_nonneg _ (by omega)) (Int.emod_lt_of_pos _ p0), n0, n1⟩
      · rintro ρ ⟨ds, sd, s3, s6, s8, rfl, hd, _, _⟩
        rw [List.length_map, List.length_range, Int.toNat_natCast, List.length_map, List.take_length] at hd
        exact q ds hd
theorem w_gcd {Γ : List Spc} : Ans Γ 2 5 ir_law_gcd S_gcd := by
  rintro as R ⟨a, b, rfl, q⟩
  refine ⟨rfl, ?_⟩
  refine ⟨fun m ρ => ∃ (x y : Nat) (s4 : Sl), ρ = [.fz (.int a), .fz (.int b), .fz (.int x), .fz (.int y), s4] ∧ Nat.gcd x y = Nat.gcd a b ∧ m = y, ⟨b, a, b, .un, ?_, rfl, rfl⟩, ?_⟩
  · show _ = [Sl.fz (.int a), .fz (.int b), .fz (.int a), .fz (.int b), .un]
    have e1 := abs_nat a
    have e2 := abs_nat b
    show [Sl.fz (.int a), .fz (.int b), .fz (.int (if (a : Int) < 0 then -(a : Int) else a)), .fz (.int (if (b : Int) < 0 then -(b : Int) else b)), .un] = _
    rw [e1, e2]
  · rintro m ρ ⟨x, y, s4, rfl, hg, rfl⟩
    refine ⟨_, rfl, ite4 (fun c => ?_) (fun c => ?_)⟩
    · have c : ¬ (m : Int) = 0 := c
      have y0 : 0 < m := by omega
      refine ⟨by omega, x % m, Nat.mod_lt _ y0, m, x % m, _, rfl, ?_, rfl⟩
      rw [← hg, Nat.gcd_comm x m, Nat.gcd_rec m x, Nat.gcd_comm]
    · have c : (m : Int) = 0 := c
      have y0 : m = 0 := by omega
      subst y0
      rw [Nat.gcd_zero_right] at hg
      rw [← hg] at q
      exact ⟨.inr rfl, q⟩
theorem w_closure (s0 s3 : Spc) : Ans [s0, S_identity, S_compose, s3] 2 7 ir_closure S_closure := by
  rintro as R ⟨n, gens, U, rfl, hn, hg, hU, hUl, q⟩
  refine ⟨rfl, ⟨_, [.cl _], _, rfl, ⟨rfl, True.intro⟩, ⟨n, rfl, hn, ?_⟩, fun _ h => h⟩⟩
  refine ⟨_, rfl, s1, _, rfl, [(encI (idl n), .bool true)], rfl, by simp [key_enc], by show 1 ≤ 15; decide, ?_⟩
  have e0 : ([(encI (idl n), PyData.bool true)].foldl (fun acc e => putD acc e.1 e.2) ([] : List (D × D))) = [(encI (idl n), .bool true)] := put_new fun ⟨e, m, _⟩ => nomatch m
  have h0 : In0 n gens [idl n] ([(encI (idl n), PyData.bool true)].foldl (fun acc e => putD acc e.1 e.2) ([] : List (D × D))) := by
    rw [e0]
    exact In0.start n gens _
  have bound : ∀ {L : Lli} {kvs : List (D × D)}, In0 n gens L kvs → L.length ≤ U.length := fun h => len_le h.nd fun x hx => hU x (h.gen x hx)
  refine ⟨fun m ρ => ∃ (L : Lli) (kvs : List (D × D)) (k : Nat) (s5 s6 : Sl), ρ = [.fz (.int n), .sh (gens.map encI), .ol (L.map encI), .od true kvs, .fz (.int k), s5, s6] ∧ m = U.length - k ∧ In0 n gens L kvs ∧ Done gens L k ∧ k ≤ L.length,
    ⟨U.length, [idl n], _, 0, .un, .un, rfl, rfl, h0, fun i _ h => absurd h (Nat.not_lt_zero i), Nat.zero_le _⟩, ?_⟩
  rintro m ρ ⟨L, kvs, k, s5, s6, rfl, rfl, hi, hd, hk⟩
  refine ⟨_, rfl, ite3 (fun c => ?_) (fun c => ?_)⟩
  · have c : k < L.length := by
      have c : (k : Int) < ((L.map encI).length : Nat) := c
      rw [List.length_map] at c
      omega
    obtain ⟨x, hx⟩ : ∃ x, L[k]? = some x := ⟨_, List.getElem?_eq_getElem c⟩
    have px : PermL n x := hi.P hg (List.mem_of_getElem? hx)
    refine ⟨(fun z => nomatch z), fun j ρ => ∃ (L' : Lli) (kvs' : List (D × D)) (s5 s6 : Sl), ρ = [.fz (.int n), .sh (gens.map encI), .ol (L'.map encI), .od true kvs', .fz (.int k), s5, s6] ∧ In1 n gens L k x j L' kvs', ⟨L, kvs, s5, s6, rfl, In1.start hi hd hx⟩, ?_, ?_⟩
    · rintro j d ρ hjd ⟨L', kvs', s5, s6, rfl, h1⟩
      obtain ⟨g, hgj, rfl⟩ := enc_of hjd
      have pg := hg g (List.mem_of_getElem? hgj)
      refine ⟨_, at_nat (enc_at h1.at'), ?_⟩
      refine ⟨_, [.cl _, .cl _], _, rfl, ⟨rfl, rfl, True.intro⟩, ⟨g, x, rfl, fun e he => by rw [pg.len]; exact px.rg e he, by rw [px.len]; exact hn, ?_⟩, fun _ h => h⟩
      refine ⟨rfl, key_enc _, _, rfl, ?_⟩
      rw [h1.i.look]
      have bl := bound h1.i
      refine ite4 (fun c => ?_) fun c => ?_
      · refine ⟨_, rfl, rfl, key_enc _, small' (by rw [h1.i.len]; omega), ?_⟩
        refine ⟨small' (by rw [List.length_map]; omega), _, rfl, ?_⟩
        exact ⟨L' ++ [mul g x], _, _, _, by rw [List.map_append]; rfl, h1.add h1.le hgj c⟩
      · exact ⟨L', kvs', _, _, rfl, h1.skip hgj c⟩
    · rintro ρ ⟨L', kvs', s5, s6, rfl, h1⟩
      rw [List.length_map] at h1
      have b1 := bound hi
      have := h1.le
      exact ⟨1, rfl, U.length - (k + 1), by omega, L', kvs', k + 1, s5, s6, rfl, rfl, h1.i, h1.done, by omega⟩
  · have c : L.length ≤ k := by
      have c : ¬ (k : Int) < ((L.map encI).length : Nat) := c
      rw [List.length_map] at c
      omega
    exact q L (hd.cl hi c)
theorem w_generated (z0 z3 : Spc) : Ans [z0, S_identity, S_compose, z3, S_closure] 2 8 ir_generated S_generated := by
  rintro as R ⟨n, gens, U, rfl, hn1, hn, hgl, hg, hU, hUl, q⟩
  refine ⟨rfl, _, rfl, s0, ⟨_, [.cl _], _, rfl, ⟨rfl, True.intro⟩, ⟨n, rfl, hn, ?_⟩, fun _ h => h⟩⟩
  refine ⟨_, rfl, s1, _, rfl, [(encI (idl n), .bool true)], rfl, by simp [key_enc], by show 1 ≤ 15; decide, ?_⟩
  have e0 : ([(encI (idl n), PyData.bool true)].foldl (fun acc e => putD acc e.1 e.2) ([] : List (D × D))) = [(encI (idl n), .bool true)] := put_new fun ⟨e, m, _⟩ => nomatch m
  have h0 : ([(encI (idl n), PyData.bool true)].foldl (fun acc e => putD acc e.1 e.2) ([] : List (D × D))).map (·.1) = [idl n].map encI := by
    rw [e0]
    rfl
  refine ⟨(fun z => nomatch z), fun j ρ => ∃ (kept L : Lli) (kvs : List (D × D)) (s5 s6 s7 : Sl), ρ = [.fz (.int n), .sh (gens.map encI), .ol (kept.map encI), .fz (.list (L.map encI)), .od true kvs, s5, s6, s7] ∧
      Cl (pm n) kept L ∧ kvs.map (·.1) = L.map encI ∧ (∀ g ∈ kept, g ∈ gens) ∧ kept.length ≤ j ∧ ∀ g ∈ gens.take j, g ∈ L,
    ⟨[], [idl n], _, .un, .un, .un, rfl, cl_one n, h0, (fun g h => nomatch h), Nat.zero_le _, fun g h => by rw [List.take_zero] at h; cases h⟩, ?_, ?_⟩
  · rintro j d ρ hjd ⟨kept, L, kvs, s5, s6, s7, rfl, hc, hk, hkg, hkl, hj⟩
    obtain ⟨g, hgj, rfl⟩ := enc_of hjd
    have hjl := (List.getElem?_eq_some_iff.mp hgj).1
    have lk : (lookD kvs (.tuple (g.map PyData.int))).isSome = decide (g ∈ L) := look_iff hk g
    refine ⟨rfl, key_enc _, _, rfl, ?_⟩
    rw [lk]
    refine ite4 (fun c => ?_) fun c => ?_
    · have hkg2 : ∀ g' ∈ kept ++ [g], g' ∈ gens := fun g' h => (List.mem_append.mp h).elim (hkg g') fun h => by
        rw [List.mem_singleton.mp h]
        exact List.mem_of_getElem? hgj
      refine ⟨small' (by rw [List.length_map]; omega), _, rfl, ?_⟩
      refine ⟨_, [.cl _, .sh _], _, rfl, ⟨rfl, ⟨(fun z => nomatch z), rfl⟩, True.intro⟩, ⟨n, kept ++ [g], U, by rw [List.map_append]; rfl, hn, fun g' h => hg g' (hkg2 g' h), fun x hx => hU x (hx.mono hkg2), hUl, fun L' hc' => ?_⟩, fun _ h => h⟩
      have len' : L'.length ≤ 1000 := Nat.le_trans (len_le hc'.nd fun x hx => hU x (((hc'.mem x).mp hx).mono hkg2)) hUl
      refine dc_all (fun x P p => p) (fun d P p => p) L' [] [] hc'.nd (by show 0 + L'.length ≤ _; omega) rfl fun kvs' hk' => ?_
      refine ⟨kept ++ [g], L', kvs', _, _, _, by rw [List.map_append]; rfl, hc', hk', hkg2, by rw [List.length_append, List.length_singleton]; omega, fun g' hg' => ?_⟩
      have pk : ∀ g' ∈ kept, PermL n g' := fun g' h => hg g' (hkg g' h)
      have pk2 : ∀ g' ∈ kept ++ [g], PermL n g' := fun g' h => hg g' (hkg2 g' h)
      rcases take_step hgj g' hg' with z | z
      · exact (hc'.mem _).mpr (((hc.mem _).mp (hj g' z)).mono fun s hs => List.mem_append_left _ hs)
      · subst z
        exact hc'.gens pk2 (List.mem_append_right _ (.head _))
    · exact ⟨kept, L, kvs, _, _, _, rfl, hc, hk, hkg, by omega, fun g' hg' => (take_step hgj g' hg').elim (hj g') fun z => z ▸ c⟩
  · rintro ρ ⟨kept, L, kvs, s5, s6, s7, rfl, hc, hk, hkg, _, hj⟩
    rw [List.length_map, List.take_length] at hj
    have pk : ∀ g' ∈ kept, PermL n g' := fun g' h => hg g' (hkg g' h)
    refine ⟨L, n, rfl, hn1, fun m hm => ((hc.sub pk).P m hm).len, fun L' pp s' => ⟨.inr rfl, q L' s' ⟨(Cl.perm hc pp).nd, fun x => ?_⟩⟩⟩
    rw [(Cl.perm hc pp).mem]
    exact ⟨fun h => h.mono hkg, fun h => h.sub (M := pm n) pk fun s hs => (hc.mem s).mp (hj s hs)⟩
theorem w_shuf (Γ' : List Spc) (hΓ : Γ'[12]? = some S_digits) : Ans Γ' 2 6 ir_law_shuffled S_shuf := by
  rintro as R ⟨c, n, rfl, hn, q⟩
  refine ⟨rfl, by omega, by omega, ?_⟩
  refine lc_idl (fun k => k) n (idl n) (List.map_id _) hn (fun d P p => p) (fun k P hk p => p) ?_
  refine ⟨_, rfl, s0, by omega, by omega, ?_⟩
  refine lc_idl (fun k => n - k) n ((idl n).map fun k => n - k) rfl hn (fun d P p => p) (fun k P hk p => p) ?_
  refine ⟨_, [.cl _, .sh _], _, hΓ, ⟨rfl, ⟨(fun z => nomatch z), rfl⟩, True.intro⟩, ⟨c, (idl n).map fun k => (n : Int) - k, rfl, by rw [List.length_map, idl_len]; exact hn, fun s hs => ?_, fun ds hd => ?_⟩, fun _ h => h⟩
  · obtain ⟨e, he, rfl⟩ := List.mem_map.mp hs
    have := (PermL.id n).rg e he
    omega
  · have dl := hd.1
    rw [List.length_map, idl_len] at dl
    refine ⟨(fun z => nomatch z), fun j ρ => ∃ (row found : List Int) (s4 : Sl), ρ = [.fz (.int c), .fz (.int n), .ol (row.map .int), .ol (found.map .int), s4, .un] ∧ (found ++ row).Perm (idl n) ∧ found.length = j ∧ j ≤ n, ⟨idl n, [], .un, rfl, .refl _, rfl, Nat.zero_le _⟩, ?_, ?_⟩
    · rintro j d ρ hjd ⟨row, found, s4, rfl, hp, hj, hjn⟩
      obtain ⟨e, hej, rfl⟩ := ints_at hjd
      have jl := (List.getElem?_eq_some_iff.mp hej).1
      have ej : ((idl n).map fun k => (n : Int) - k)[j]? = some ((n : Int) - j) := by
        rw [List.getElem?_map, idl_at (by omega)]
        rfl
      obtain ⟨e0, e1⟩ := hd.2 j _ e ej hej
      have rl := hp.length_eq
      rw [List.length_append, idl_len] at rl
      have ek : e.toNat < row.length := by omega
      obtain ⟨x, hx⟩ : ∃ x, row[e.toNat]? = some x := ⟨_, List.getElem?_eq_getElem ek⟩
      refine ⟨by decide, small' (by rw [List.length_map]; omega), e, e.toNat, .int x, rfl, by omega, by omega, ?_, ints_get hx, ?_⟩
      · exact seq_ok e0 (by rw [List.length_map]; omega)
      · refine ⟨row.eraseIdx e.toNat, found ++ [x], .fz (.int e), ?_, ?_, by rw [List.length_append, List.length_singleton, hj], by omega⟩
        · have e2 : (row.map PyData.int).eraseIdx e.toNat = (row.eraseIdx e.toNat).map .int := erase_map _ _ _
          have e3 : found.map PyData.int ++ [.int x] = (found ++ [x]).map .int := by
            rw [List.map_append]
            rfl
          rw [← e2, ← e3]
          rfl
        · refine List.Perm.trans ?_ hp
          rw [List.append_assoc]
          exact (erase_perm hx).append_left found
    · rintro ρ ⟨row, found, s4, rfl, hp, hj, hjn⟩
      rw [List.length_map, dl] at hj
      have rl := hp.length_eq
      rw [List.length_append, idl_len] at rl
      have er : row = [] := List.eq_nil_of_length_eq_zero (by omega)
      subst er
      rw [List.append_nil] at hp
      exact ⟨.inr rfl, q found (perm_of (PermL.id n) hp)⟩
theorem w_aff (Γ' : List Spc) (hΓ : Γ'[12]? = some S_digits) (hg : Γ'[13]? = some S_gcd) : Ans Γ' 2 6 ir_law_affine S_aff := by
  rintro as R ⟨c, n, rfl, hn2, hn, q⟩
  refine ⟨rfl, _, rfl, s2, ?_⟩
  refine ⟨_, [.cl _, .sh (([n, n] : List Int).map .int)], _, hΓ, ⟨rfl, ⟨(fun z => nomatch z), rfl⟩, True.intro⟩, ⟨c, [n, n], rfl, by show 2 ≤ 1000; decide, fun s hs => ?_, fun ds hd => ?_⟩, fun _ h => h⟩
  · have e : s = n := by simpa using hs
    omega
  · have dl : ds.length = 2 := hd.1
    obtain ⟨a, b, rfl⟩ : ∃ a b, ds = [a, b] := by
      match ds, dl with
      | [a, b], _ => exact ⟨a, b, rfl⟩
    obtain ⟨a0, a1⟩ := hd.2 0 n a rfl rfl
    obtain ⟨b0, b1⟩ := hd.2 1 n b rfl rfl
    obtain ⟨u0, rfl⟩ : ∃ u : Nat, a = u := ⟨a.toNat, by omega⟩
    obtain ⟨b, rfl⟩ : ∃ u : Nat, b = u := ⟨b.toNat, by omega⟩
    have done : ∀ (u : Nat) (s4 : Sl), Nat.gcd u n = 1 → W Γ' (.cons (.ret (.blt .tuple (.cons (.lc 5 (.rng (.cons (.var 1) .nil)) .nil (.bin .mod (.blt .int (.cons (.bin .add (.bin .mul (.var 3) (.var 5)) (.ix (.var 2) (.cst (.int 1)))) .nil)) (.var 1))) .nil))) .nil)
        [.fz (.int c), .fz (.int n), .fz (.list [.int u0, .int b]), .fz (.int u), s4, .un] (fin R) := fun u s4 hg => by
      refine ⟨by omega, by omega, ?_⟩
      refine lc_idl (fun k => ((u : Int) * k + b) % n) n (aff n u b) rfl hn (fun d P p => p) (fun k P hk p => ?_) ⟨.inr rfl, q _ (aff_ok b (by omega) hg)⟩
      exact ⟨mulR (by omega) (by omega), _, rfl, by omega, p⟩
    refine ⟨_, rfl, by omega, by omega, (fun z => nomatch z), fun j ρ => ∃ (u : Nat) (s4 : Sl), ρ = [.fz (.int c), .fz (.int n), .fz (.list [.int u0, .int b]), .fz (.int u), s4, .un] ∧ u = (u0 + j) % n ∧ ∀ i, i < j → Nat.gcd ((u0 + i) % n) n ≠ 1,
      ⟨u0, .un, rfl, (Nat.mod_eq_of_lt (by omega)).symm, fun i h => absurd h (Nat.not_lt_zero i)⟩, ?_, ?_⟩
    · rintro j d ρ hjd ⟨u, s4, rfl, hu, hno⟩
      obtain ⟨hj, rfl⟩ := range_at hjd
      refine ⟨_, [.cl (.int u), .cl (.int n)], _, hg, ⟨rfl, rfl, True.intro⟩, ⟨u, n, rfl, ?_⟩, fun _ h => h⟩
      refine ⟨_, rfl, ite3 (fun g => ?_) (fun g => ?_)⟩
      · have g : ((Nat.gcd u n : Nat) : Int) = 1 := g
        exact done u _ (by omega)
      · have g : ¬ ((Nat.gcd u n : Nat) : Int) = 1 := g
        refine ⟨by omega, (u + 1) % n, _, rfl, ?_, fun i hi => ?_⟩
        · rw [hu, Nat.mod_add_mod]
          rfl
        · by_cases e : i = j
          · subst e
            rw [← hu]
            omega
          · exact hno i (by omega)
    · rintro ρ ⟨u, s4, rfl, hu, hno⟩
      rw [List.length_map, List.length_range, Int.toNat_natCast] at hno
      refine absurd ?_ (hno ((n + 1 - u0) % n) (Nat.mod_lt _ (by omega)))
      have e : (u0 + (n + 1 - u0) % n) % n = 1 := by
        rw [Nat.add_mod_mod, show u0 + (n + 1 - u0) = 1 + n by omega, Nat.add_mod_right, Nat.mod_eq_of_lt (by omega)]
      rw [e, Nat.gcd_one_left]
end K45

set_option Elab.async false
set_option linter.all false
set_option maxRecDepth 100000
set_option maxHeartbeats 4000000
/-! K45c: the chain of tables, plainly; the package's defs. -/
namespace K45
open PySem
open L2
open Ir
open Gp
open Pm
open Kb
theorem lc_pair {C : D → (Bool → Prop) → Prop} {F : D → Post → Prop} {Q : Post} {G : D → D → Prop} (hC : ∀ d P, P true → C d P) (hF : ∀ d e, G d e → ∀ P : Post, (∀ r, toCl r = some e → P r) → F d P) : ∀ {ds es : List D}, Paired G ds es → ∀ acc : List D, acc.length + ds.length ≤ sizeLine → Q (.fr, .list (acc ++ es)) → lcW C F Q ds acc
  | _, _, .nil, acc, _, q => by
    rw [List.append_nil] at q
    exact q
  | d :: ds, e :: es, .cons g gs, acc, hl, q => by
    rw [List.length_cons] at hl
    refine ⟨by omega, hC _ _ ?_⟩
    rw [if_pos rfl]
    refine hF d e g _ fun r hr => ⟨e, hr, lc_pair hC hF gs (acc ++ [e]) ?_ ?_⟩
    · rw [List.length_append, List.length_singleton]
      omega
    · rw [List.append_assoc]
      exact q
/-! frozen -/
def Fz : Nat → D → D → Prop
  | 0, _, _ => False
  | n + 1, a, b => (∃ i, a = .int i ∧ b = .int i) ∨ ∃ ds es, (a = .list ds ∨ a = .tuple ds) ∧ b = .tuple es ∧ ds.length ≤ 1000 ∧ Paired (Fz n) ds es
def S_frozen (n : Nat) : Spc := fun as R => ∃ a b : D, as = [.cl a] ∧ Fz n a b ∧ R (.cl, b)
theorem w_frozen (n : Nat) : Ans ([] ++ [S_frozen n]) 1 2 ir_frozen (S_frozen (n + 1)) := by
  rintro as R ⟨a, b, rfl, h, q⟩
  refine ⟨rfl, ?_⟩
  rcases h with ⟨i, rfl, rfl⟩ | ⟨ds, es, h, rfl, hl, hp⟩
  · exact ⟨(fun z h => nomatch h), (fun z h => nomatch h), _, rfl, iteF ⟨.inr rfl, q⟩⟩
  · rcases h with rfl | rfl
    · refine ⟨(fun z h => nomatch h), (fun z h => nomatch h), _, rfl, iteT ?_⟩
      refine lc_pair (fun d P p => p) (fun d e g P hP => ?_) hp [] (small (by show 0 + ds.length ≤ _; omega)) ⟨.inr rfl, q⟩
      exact ⟨_, [.cl _], _, rfl, ⟨rfl, True.intro⟩, ⟨d, e, rfl, g, hP _ rfl⟩, fun _ h => h⟩
    · refine ⟨(fun z h => nomatch h), (fun z h => nomatch h), _, rfl, iteT ?_⟩
      refine lc_pair (fun d P p => p) (fun d e g P hP => ?_) hp [] (small (by show 0 + ds.length ≤ _; omega)) ⟨.inr rfl, q⟩
      exact ⟨_, [.cl _], _, rfl, ⟨rfl, True.intro⟩, ⟨d, e, rfl, g, hP _ rfl⟩, fun _ h => h⟩
theorem fz_ints : ∀ x : List Int, Paired (Fz 1) (x.map PyData.int) (x.map PyData.int)
  | [] => .nil
  | _ :: x => .cons (.inl ⟨_, rfl, rfl⟩) (fz_ints x)
theorem fz_it {t : Bool} {x : List Int} (h : x.length ≤ 1000) : Fz 2 (itD t x) (encI x) := by
  cases t
  · exact .inr ⟨_, _, .inl rfl, rfl, by rw [List.length_map]; exact h, fz_ints x⟩
  · exact .inr ⟨_, _, .inr rfl, rfl, by rw [List.length_map]; exact h, fz_ints x⟩
theorem fz_whole {t : Bool} {U : Lli} (hl : U.length ≤ 1000) (h : ∀ x ∈ U, x.length ≤ 1000) : Fz 3 (wholeD t U) (.tuple (U.map encI)) := by
  have go : ∀ (t : Bool) (U : Lli), (∀ x ∈ U, x.length ≤ 1000) → Paired (Fz 2) (U.map (itD t)) (U.map encI) := fun t U => by
    induction U with
    | nil => exact fun _ => .nil
    | cons x U ih => exact fun h => .cons (fz_it (h x (.head _))) (ih fun y hy => h y (.tail _ hy))
  have q := go t U h
  cases t
  · exact .inr ⟨_, _, .inl rfl, rfl, by rw [List.length_map]; exact hl, q⟩
  · exact .inr ⟨_, _, .inr rfl, rfl, by rw [List.length_map]; exact hl, q⟩
/-! inverse -/
def S_inverse : Spc := fun as R => ∃ (n : Nat) (a : List Int), as = [.cl (encI a)] ∧ n ≤ 1000 ∧ PermL n a ∧ ∀ b, PermL n b → mul a b = idl n → R (.cl, encI b)
theorem inv_perm {n : Nat} {a b : List Int} (ha : PermL n a) (hl : b.length = n) (h : ∀ i : Nat, i < n → getI b (getI a i) = i) : PermL n b ∧ mul a b = idl n := by
  have la := ha.len
  have at' : ∀ p : Nat, p < n → ∃ i : Nat, i < n ∧ getI a i = p ∧ getI b p = i := fun p hp => by
    have m := perm_all ha (e := p) (by omega) (by omega)
    obtain ⟨i, hi, e⟩ := List.mem_iff_getElem.mp m
    have e2 : getI a i = p := by rw [getI_at hi, e]
    exact ⟨i, by omega, e2, by rw [← e2]; exact h i (by omega)⟩
  refine ⟨⟨hl, nodup_of fun i j hi hj e => ?_, fun x hx => ?_⟩, ?_⟩
  · obtain ⟨p, _, p1, p2⟩ := at' i (by omega)
    obtain ⟨q, _, q1, q2⟩ := at' j (by omega)
    rw [getI_at hi] at p2
    rw [getI_at hj] at q2
    have z : p = q := by omega
    subst z
    omega
  · obtain ⟨i, hi, e⟩ := List.mem_iff_getElem.mp hx
    obtain ⟨p, hp, p1, p2⟩ := at' i (by omega)
    rw [getI_at hi, e] at p2
    omega
  · unfold mul
    refine List.ext_getElem (by rw [List.length_map, idl_len, hl]) fun i h1 h2 => ?_
    rw [List.length_map] at h1
    obtain ⟨p, hp, p1, p2⟩ := at' i (by omega)
    rw [getI_at h1] at p2
    rw [List.getElem_map, p2, p1, ← getI_at h2, idl_get (by omega) (by omega)]
theorem rep_zero (n : Nat) : (List.replicate n [PyData.int 0]).flatten = (List.replicate n (0 : Int)).map .int := by
  induction n with
  | zero => rfl
  | succ n ih => rw [List.replicate_succ, List.replicate_succ, List.flatten_cons, ih]; rfl
theorem w_inverse {Γ : List Spc} : Ans Γ 1 3 ir_inverse S_inverse := by
  rintro as R ⟨n, a, rfl, hn, ha, q⟩
  have la := ha.len
  refine ⟨rfl, _, rfl, s1, (fun z => nomatch z), by omega, by rw [List.length_map]; omega, small (by rw [List.length_map]; show 1 * (Int.toNat _) ≤ _; omega), ?_⟩
  refine ⟨by omega, by rw [List.length_map]; omega, (fun z => nomatch z), fun j ρ => ∃ (b : List Int) (s2 : Sl), ρ = [.fz (encI a), .ol (b.map .int), s2] ∧ b.length = n ∧ ∀ i : Nat, i < j → i < n → getI b (getI a i) = i, ⟨List.replicate n 0, .un, ?_, List.length_replicate, fun i h => absurd h (Nat.not_lt_zero i)⟩, ?_, ?_⟩
  · have e := rep_zero n
    show [Sl.fz (encI a), .ol (List.replicate (((a.map PyData.int).length : Nat) : Int).toNat [PyData.int 0]).flatten, .un] = _
    rw [List.length_map, Int.toNat_natCast, la, e]
  · rintro j d ρ hjd ⟨b, s2, rfl, hb, hi⟩
    obtain ⟨hj, rfl⟩ := range_at hjd
    rw [List.length_map] at hj
    have aj := ha.rg _ (getI_mem (l := a) (i := j) (by omega) (by omega))
    refine ⟨_, rfl, _, at_enc (by omega) (by omega), getI a j, (getI a j).toNat, rfl, ?_, ?_⟩
    · unfold ixN
      rw [if_pos aj.1, if_pos (by rw [List.length_map]; omega)]
    · refine ⟨b.set (getI a j).toNat j, .fz (.int j), ?_, by rw [List.length_set]; exact hb, fun i h1 h2 => ?_⟩
      · have e : (b.map PyData.int).set (getI a j).toNat (.int j) = (b.set (getI a j).toNat j).map .int := (List.map_set ..).symm
        rw [← e]
        rfl
      · have ai := ha.rg _ (getI_mem (l := a) (i := i) (by omega) (by omega))
        rw [getI_set ai.1 (by omega)]
        by_cases c : i = j
        · subst c
          rw [if_pos (by omega)]
        · rw [if_neg (fun e => c (by
            have z := getI_inj ha.nd (i := i) (j := j) (by omega) (by omega) (by omega) (by omega) (by omega)
            omega))]
          exact hi i (by omega) h2
  · rintro ρ ⟨b, s2, rfl, hb, hi⟩
    rw [List.length_map, List.length_range, Int.toNat_natCast, List.length_map, la] at hi
    obtain ⟨p1, p2⟩ := inv_perm ha hb fun i h => hi i h h
    exact ⟨.inr rfl, q b p1 p2⟩
/-! a comprehension that keeps some -/
theorem lc_keep {C : D → (Bool → Prop) → Prop} {F : D → Post → Prop} {Q : Post} {p : List Int → Bool} : ∀ (U acc : Lli), acc.length + U.length ≤ 1000000 → (∀ x ∈ U, ∀ P : Bool → Prop, P (p x) → C (encI x) P) → (∀ x ∈ U, ∀ P : Post, P (.cl, encI x) → F (encI x) P) →
    Q (.fr, .list ((acc ++ U.filter p).map encI)) → lcW C F Q (U.map encI) (acc.map encI)
  | [], acc, _, _, _, q => by
    rw [List.filter_nil, List.append_nil] at q
    exact q
  | x :: U, acc, hl, hC, hF, q => by
    rw [List.length_cons] at hl
    refine ⟨small' (by rw [List.length_map]; omega), hC x (.head _) _ ?_⟩
    have hC' := fun y hy => hC y (.tail _ hy)
    have hF' := fun y hy => hF y (.tail _ hy)
    cases c : p x with
    | false =>
      rw [if_neg (by decide)]
      rw [List.filter_cons, if_neg (by rw [c]; decide)] at q
      exact lc_keep U acc (by omega) hC' hF' q
    | true =>
      rw [if_pos rfl]
      rw [List.filter_cons, if_pos c] at q
      refine hF x (.head _) _ ⟨_, rfl, ?_⟩
      have e : acc.map encI ++ [encI x] = (acc ++ [x]).map encI := by rw [List.map_append]; rfl
      rw [e]
      refine lc_keep U (acc ++ [x]) (by rw [List.length_append, List.length_singleton]; omega) hC' hF' ?_
      rw [List.append_assoc]
      exact q
def stab (T : Lli) (p : Int) : Lli := T.filter fun x => decide (getI x p = p)
def S_stab : Spc := fun as R => ∃ (n : Nat) (T : Lli) (p : Int), as = [.cl (.tuple (T.map encI)), .cl (.int p)] ∧ T.length ≤ 1000 ∧ (∀ x ∈ T, PermL n x) ∧ 0 ≤ p ∧ p < n ∧ R (.cl, .tuple ((stab T p).map encI))
theorem w_stab {Γ : List Spc} : Ans Γ 2 3 ir_stabilizer S_stab := by
  rintro as R ⟨n, T, p, rfl, hT, hp, p0, p1, q⟩
  refine ⟨rfl, ?_⟩
  refine lc_keep (p := fun x => decide (getI x p = p)) T [] (by show 0 + T.length ≤ _; omega) (fun x hx P hP => ?_) (fun x hx P hP => hP) ⟨.inr rfl, q⟩
  have px := hp x hx
  exact ⟨_, at_enc p0 (by rw [px.len]; exact p1), _, rfl, hP⟩
/-! the next member -/
def dmB (H : Lli) (x : List Int) : Bool := (!decide (x ∈ H)) && decide (mul x x ∈ H) && H.all fun h => decide (mul x h ∈ H.map fun k => mul k x)
def nextD (T H : Lli) : Option (List Int) := T.find? (dmB H)
def optD : Option (List Int) → D
  | some x => encI x
  | none => .none
theorem dmB_ok {n : Nat} {T H : Lli} {x : List Int} (hx : x ∈ T) (h : dmB H x = true) : Dm (pm n) T H x := by
  unfold dmB at h
  simp only [Bool.and_eq_true, Bool.not_eq_true', decide_eq_false_iff_not, decide_eq_true_eq, List.all_eq_true] at h
  refine ⟨hx, h.1.1, h.1.2, fun a ha => ?_⟩
  obtain ⟨k, hk, e⟩ := List.mem_map.mp (h.2 a ha)
  exact ⟨k, hk, e.symm⟩
theorem dmB_of {n : Nat} {T H : Lli} {x : List Int} (d : Dm (pm n) T H x) : dmB H x = true := by
  unfold dmB
  simp only [Bool.and_eq_true, Bool.not_eq_true', decide_eq_false_iff_not, decide_eq_true_eq, List.all_eq_true]
  refine ⟨⟨d.n, d.sq⟩, fun a ha => ?_⟩
  obtain ⟨k, hk, e⟩ := d.nm a ha
  exact List.mem_map.mpr ⟨k, hk, e.symm⟩
end K45

set_option Elab.async false
set_option linter.all false
set_option maxRecDepth 100000
set_option maxHeartbeats 4000000
/-! K45d: doubling_member, the path of tables, halving_steps. -/
namespace K45
open PySem
open L2
open Ir
open Gp
open Pm
open Kb
theorem find_first {α : Type} {p : α → Bool} {T : List α} {j : Nat} {x : α} (h : T[j]? = some x) (hx : p x = true) (no : ∀ y ∈ T.take j, p y = false) : T.find? p = some x := by
  have lt := (List.getElem?_eq_some_iff.mp h).1
  have e : T = T.take j ++ x :: T.drop (j + 1) := by
    have z : T.drop j = x :: T.drop (j + 1) := by
      rw [List.drop_eq_getElem_cons lt]
      rw [List.getElem?_eq_getElem lt] at h
      rw [Option.some.inj h]
    rw [← z, List.take_append_drop]
  rw [e, List.find?_append]
  have n : (T.take j).find? p = none := List.find?_eq_none.mpr fun y hy => by rw [no y hy]; decide
  rw [n, List.find?_cons, hx]
  rfl
theorem find_none {α : Type} {p : α → Bool} {T : List α} (no : ∀ y ∈ T, p y = false) : T.find? p = none := List.find?_eq_none.mpr fun y hy => by rw [no y hy]; decide
/-- a comprehension of truths -/
theorem lc_bool {C : D → (Bool → Prop) → Prop} {F : D → Post → Prop} {Q : Post} {p : List Int → Bool} (hC : ∀ d P, P true → C d P) : ∀ (U : Lli) (acc : List Bool), acc.length + U.length ≤ 1000000 → (∀ x ∈ U, ∀ P : Post, P (.cl, .bool (p x)) → F (encI x) P) →
    Q (.fr, .list ((acc ++ U.map p).map .bool)) → lcW C F Q (U.map encI) (acc.map .bool)
  | [], acc, _, _, q => by
    rw [List.map_nil, List.append_nil] at q
    exact q
  | x :: U, acc, hl, hF, q => by
    rw [List.length_cons] at hl
    refine ⟨small' (by rw [List.length_map]; omega), hC _ _ ?_⟩
    rw [if_pos rfl]
    refine hF x (.head _) _ ⟨_, rfl, ?_⟩
    have e : acc.map PyData.bool ++ [.bool (p x)] = (acc ++ [p x]).map .bool := by rw [List.map_append]; rfl
    rw [e]
    refine lc_bool hC U (acc ++ [p x]) (by rw [List.length_append, List.length_singleton]; omega) (fun y hy => hF y (.tail _ hy)) ?_
    rw [List.append_assoc]
    exact q
theorem inv_both {n : Nat} {a b : List Int} (ha : PermL n a) (hb : PermL n b) (e : mul a b = idl n) : mul b a = idl n := by
  refine (pm n).canc ha (PermL.mul hb ha) (PermL.id n) ?_
  show mul a (mul b a) = mul a (idl n)
  have z1 := (pm n).assoc ha hb ha
  have z1 : mul (mul a b) a = mul a (mul b a) := z1
  rw [← z1, e]
  exact ((pm n).one_mul ha).trans ((pm n).mul_one ha).symm
theorem conj_in {n : Nat} {H : Lli} {x b h : List Int} (hH : ∀ y ∈ H, PermL n y) (px : PermL n x) (pb : PermL n b) (ph : PermL n h) (e : mul x b = idl n) : mul (mul x h) b ∈ H ↔ mul x h ∈ H.map fun k => mul k x := by
  have e2 := inv_both px pb e
  have pxh := PermL.mul px ph
  rw [List.mem_map]
  refine ⟨fun m => ⟨_, m, ?_⟩, fun ⟨k, hk, z⟩ => ?_⟩
  · have z : mul (mul (mul x h) b) x = mul (mul x h) (mul b x) := (pm n).assoc pxh pb px
    rw [z, e2]
    exact (pm n).mul_one pxh
  · have z2 : mul (mul k x) b = mul k (mul x b) := (pm n).assoc (hH k hk) px pb
    rw [← z, z2, e]
    have z3 : mul k (idl n) = k := (pm n).mul_one (hH k hk)
    rw [z3]
    exact hk
def S_doubling : Spc := fun as R => ∃ (n : Nat) (T H : Lli), as = [.cl (.tuple (T.map encI)), .cl (.tuple (H.map encI))] ∧ n ≤ 1000 ∧ T.length ≤ 1000 ∧ H.length ≤ 1000 ∧ H.Nodup ∧ (∀ x ∈ T, PermL n x) ∧ (∀ x ∈ H, PermL n x) ∧ R (.cl, optD (nextD T H))
theorem w_doubling (z0 z1 : Spc) (more : List Spc) : Ans (z0 :: z1 :: S_compose :: S_inverse :: more) 2 6 ir_doubling_member S_doubling := by
  rintro as R ⟨n, T, H, rfl, hn, hTl, hHl, nd, hT, hH, q⟩
  refine ⟨rfl, ?_⟩
  refine dc_all (fun x P p => p) (fun d P p => p) H [] [] nd (by show 0 + H.length ≤ _; omega) rfl fun kvs hk => ?_
  have lk : ∀ y : List Int, (lookD kvs (encI y)).isSome = decide (y ∈ H) := fun y => look_iff hk y
  have comp : ∀ (a b : List Int) (Q : Post), PermL n a → PermL n b → Q (.cl, encI (mul a b)) → S_compose [.cl (encI a), .cl (encI b)] Q := fun a b Q pa pb q => ⟨a, b, rfl, fun e he => by rw [pa.len]; exact pb.rg e he, by rw [pb.len]; exact hn, q⟩
  refine ⟨(fun z => nomatch z), fun j ρ => ∃ (s3 s4 : Sl), ρ = [.fz (.tuple (T.map encI)), .fz (.tuple (H.map encI)), .od true kvs, s3, s4, .un] ∧ ∀ y ∈ T.take j, dmB H y = false, ⟨.un, .un, rfl, fun y h => by rw [List.take_zero] at h; cases h⟩, ?_, ?_⟩
  · rintro j d ρ hjd ⟨s3, s4, rfl, hno⟩
    obtain ⟨x, hxj, rfl⟩ := enc_of hjd
    have px := hT x (List.mem_of_getElem? hxj)
    refine ⟨rfl, key_enc _, _, rfl, ?_⟩
    rw [lk]
    refine ite4 (fun c => ?_) fun c => ?_
    · refine ⟨_, [.cl _, .cl _], _, rfl, ⟨rfl, rfl, True.intro⟩, comp x x _ px px ?_, fun _ h => h⟩
      refine ⟨rfl, key_enc _, _, rfl, ?_⟩
      rw [lk]
      refine ite3 (fun c2 => ?_) fun c2 => ?_
      · refine ⟨_, [.cl _], _, rfl, ⟨rfl, True.intro⟩, ⟨n, x, rfl, hn, px, fun b pb e => ?_⟩, fun _ h => h⟩
        refine lc_bool (p := fun h => decide (mul (mul x h) b ∈ H)) (fun d P p => p) H [] (by show 0 + H.length ≤ _; omega) (fun h hh P hP => ?_) ?_
        · refine ⟨_, [.cl _, .cl _], _, rfl, ⟨rfl, rfl, True.intro⟩, comp x h _ px (hH h hh) ?_, fun _ h => h⟩
          refine ⟨_, [.cl _, .cl _], _, rfl, ⟨rfl, rfl, True.intro⟩, comp (mul x h) b _ (PermL.mul px (hH h hh)) pb ?_, fun _ h => h⟩
          refine ⟨rfl, key_enc _, ?_⟩
          rw [lk]
          exact hP
        · refine ⟨H.map fun h => decide (mul (mul x h) b ∈ H), rfl, (fun z h => nomatch h), (fun z h => nomatch h), _, rfl, ?_⟩
          have eb : (H.map fun h => decide (mul (mul x h) b ∈ H)).all id = H.all fun h => decide (mul x h ∈ H.map fun k => mul k x) := by
            rw [List.all_map]
            have z : ∀ L : Lli, (∀ h ∈ L, h ∈ H) → (L.all (id ∘ fun h => decide (mul (mul x h) b ∈ H))) = L.all fun h => decide (mul x h ∈ H.map fun k => mul k x) := fun L => by
              induction L with
              | nil => exact fun _ => rfl
              | cons h L ih =>
                intro hs
                rw [List.all_cons, List.all_cons, ih fun y hy => hs y (.tail _ hy)]
                have z2 : (id ∘ fun h => decide (mul (mul x h) b ∈ H)) h = decide (mul x h ∈ H.map fun k => mul k x) := decide_eq_decide.mpr (conj_in hH px pb (hH h (hs h (.head _))) e)
                rw [z2]
            exact z H fun h hh => hh
          show if truth (.bool ((H.map fun h => decide (mul (mul x h) b ∈ H)).all id)) = true then _ else _
          rw [eb]
          have eD : dmB H x = H.all fun h => decide (mul x h ∈ H.map fun k => mul k x) := by
            unfold dmB
            rw [decide_eq_false c, decide_eq_true c2]
            rfl
          rw [← eD]
          cases cb : dmB H x with
          | true =>
            refine iteT ?_
            have z := find_first hxj cb hno
            have z : nextD T H = some x := z
            rw [z] at q
            exact ⟨.inr rfl, q⟩
          | false =>
            refine iteF ⟨_, _, rfl, fun y hy => (take_step hxj y hy).elim (hno y) fun e => e ▸ cb⟩
      · exact ⟨_, _, rfl, fun y hy => (take_step hxj y hy).elim (hno y) fun e => e ▸ by
          unfold dmB
          rw [decide_eq_false c2, Bool.and_false]
          rfl⟩
    · exact ⟨_, rfl, iteF ⟨_, _, rfl, fun y hy => (take_step hxj y hy).elim (hno y) fun e => e ▸ by
        unfold dmB
        rw [decide_eq_true c]
        rfl⟩⟩
  · rintro ρ ⟨s3, s4, rfl, hno⟩
    rw [List.length_map, List.take_length] at hno
    have z : nextD T H = none := find_none hno
    rw [z] at q
    exact ⟨.inr rfl, q⟩
end K45

set_option Elab.async false
set_option linter.all false
set_option maxRecDepth 100000
set_option maxHeartbeats 4000000
/-! K45e: the path of tables, halving_steps, halving_chain. -/
namespace K45
open PySem
open L2
open Ir
open Gp
open Pm
open Kb
def S_generatedT : Spc := fun as R => ∃ (n : Nat) (gens U : Lli), as = [.cl (.int n), .cl (.tuple (gens.map encI))] ∧ 1 ≤ n ∧ n ≤ 1000 ∧ gens.length ≤ 1000000 ∧ (∀ g ∈ gens, PermL n g) ∧ (∀ x, Gen (pm n) (· ∈ gens) x → x ∈ U) ∧ U.length ≤ 1000 ∧
  ∀ L, Srt L → Cl (pm n) gens L → R (.cl, .tuple (L.map encI))
theorem w_generatedT (z0 z3 : Spc) : Ans [z0, S_identity, S_compose, z3, S_closure] 2 8 ir_generated S_generatedT := by
  rintro as R ⟨n, gens, U, rfl, hn1, hn, hgl, hg, hU, hUl, q⟩
  refine ⟨rfl, _, rfl, s0, ⟨_, [.cl _], _, rfl, ⟨rfl, True.intro⟩, ⟨n, rfl, hn, ?_⟩, fun _ h => h⟩⟩
  refine ⟨_, rfl, s1, _, rfl, [(encI (idl n), .bool true)], rfl, by simp [key_enc], by show 1 ≤ 15; decide, ?_⟩
  have e0 : ([(encI (idl n), PyData.bool true)].foldl (fun acc e => putD acc e.1 e.2) ([] : List (D × D))) = [(encI (idl n), .bool true)] := put_new fun ⟨e, m, _⟩ => nomatch m
  have h0 : ([(encI (idl n), PyData.bool true)].foldl (fun acc e => putD acc e.1 e.2) ([] : List (D × D))).map (·.1) = [idl n].map encI := by
    rw [e0]
    rfl
  refine ⟨(fun z => nomatch z), fun j ρ => ∃ (kept L : Lli) (kvs : List (D × D)) (s5 s6 s7 : Sl), ρ = [.fz (.int n), .fz (.tuple (gens.map encI)), .ol (kept.map encI), .fz (.list (L.map encI)), .od true kvs, s5, s6, s7] ∧
      Cl (pm n) kept L ∧ kvs.map (·.1) = L.map encI ∧ (∀ g ∈ kept, g ∈ gens) ∧ kept.length ≤ j ∧ ∀ g ∈ gens.take j, g ∈ L,
    ⟨[], [idl n], _, .un, .un, .un, rfl, cl_one n, h0, (fun g h => nomatch h), Nat.zero_le _, fun g h => by rw [List.take_zero] at h; cases h⟩, ?_, ?_⟩
  · rintro j d ρ hjd ⟨kept, L, kvs, s5, s6, s7, rfl, hc, hk, hkg, hkl, hj⟩
    obtain ⟨g, hgj, rfl⟩ := enc_of hjd
    have hjl := (List.getElem?_eq_some_iff.mp hgj).1
    have lk : (lookD kvs (.tuple (g.map PyData.int))).isSome = decide (g ∈ L) := look_iff hk g
    refine ⟨rfl, key_enc _, _, rfl, ?_⟩
    rw [lk]
    refine ite4 (fun c => ?_) fun c => ?_
    · have hkg2 : ∀ g' ∈ kept ++ [g], g' ∈ gens := fun g' h => (List.mem_append.mp h).elim (hkg g') fun h => by
        rw [List.mem_singleton.mp h]
        exact List.mem_of_getElem? hgj
      refine ⟨small' (by rw [List.length_map]; omega), _, rfl, ?_⟩
      refine ⟨_, [.cl _, .sh _], _, rfl, ⟨rfl, ⟨(fun z => nomatch z), rfl⟩, True.intro⟩, ⟨n, kept ++ [g], U, by rw [List.map_append]; rfl, hn, fun g' h => hg g' (hkg2 g' h), fun x hx => hU x (hx.mono hkg2), hUl, fun L' hc' => ?_⟩, fun _ h => h⟩
      have len' : L'.length ≤ 1000 := Nat.le_trans (len_le hc'.nd fun x hx => hU x (((hc'.mem x).mp hx).mono hkg2)) hUl
      refine dc_all (fun x P p => p) (fun d P p => p) L' [] [] hc'.nd (by show 0 + L'.length ≤ _; omega) rfl fun kvs' hk' => ?_
      refine ⟨kept ++ [g], L', kvs', _, _, _, by rw [List.map_append]; rfl, hc', hk', hkg2, by rw [List.length_append, List.length_singleton]; omega, fun g' hg' => ?_⟩
      have pk : ∀ g' ∈ kept, PermL n g' := fun g' h => hg g' (hkg g' h)
      have pk2 : ∀ g' ∈ kept ++ [g], PermL n g' := fun g' h => hg g' (hkg2 g' h)
      rcases take_step hgj g' hg' with z | z
      · exact (hc'.mem _).mpr (((hc.mem _).mp (hj g' z)).mono fun s hs => List.mem_append_left _ hs)
      · subst z
        exact hc'.gens pk2 (List.mem_append_right _ (.head _))
    · exact ⟨kept, L, kvs, _, _, _, rfl, hc, hk, hkg, by omega, fun g' hg' => (take_step hgj g' hg').elim (hj g') fun z => z ▸ c⟩
  · rintro ρ ⟨kept, L, kvs, s5, s6, s7, rfl, hc, hk, hkg, _, hj⟩
    rw [List.length_map, List.take_length] at hj
    have pk : ∀ g' ∈ kept, PermL n g' := fun g' h => hg g' (hkg g' h)
    refine ⟨L, n, rfl, hn1, fun m hm => ((hc.sub pk).P m hm).len, fun L' pp s' => ⟨.inr rfl, q L' s' ⟨(Cl.perm hc pp).nd, fun x => ?_⟩⟩⟩
    rw [(Cl.perm hc pp).mem]
    exact ⟨fun h => h.mono hkg, fun h => h.sub (M := pm n) pk fun s hs => (hc.mem s).mp (hj s hs)⟩

/-- a table of the law's: a sorted group of 2^b members -/
structure Tab (n : Nat) (T : Lli) : Prop where
  n1 : 1 ≤ n
  n64 : n ≤ 64
  g : Grp (pm n) T
  srt : Srt T
  pw : ∃ b, T.length = 2 ^ b
  len : T.length ≤ 128
inductive Path (T H0 : Lli) : List Lli → Prop where
  | start : Path T H0 ([] ++ [H0])
  | step {C : List Lli} {H H' : Lli} {x : List Int} : Path T H0 (C ++ [H]) → nextD T H = some x → Srt H' → H'.Nodup → (∀ y, y ∈ H' ↔ y ∈ H ++ H.map (mul x)) → Path T H0 ((C ++ [H]) ++ [H'])
theorem snoc_inj {α : Type} {A B : List α} {a b : α} (h : A ++ [a] = B ++ [b]) : A = B ∧ a = b := by
  have z := List.append_inj' h rfl
  exact ⟨z.1, by simpa using z.2⟩
structure Here1 (n : Nat) (T H0 : Lli) (C : List Lli) (H : Lli) : Prop where
  g : Grp (pm n) H
  le : ∀ y ∈ H, y ∈ T
  srt : Srt H
  len : H.length = H0.length * 2 ^ C.length
  cl : C.length + 1 ≤ H.length
theorem grp_same {n : Nat} {K L : Lli} (k : Grp (pm n) K) (nd : L.Nodup) (e : ∀ y, y ∈ L ↔ y ∈ K) : Grp (pm n) L := ⟨⟨(e _).mpr k.sub.one, fun a ha b hb => (e _).mpr (k.sub.mul a ((e a).mp ha) b ((e b).mp hb)), fun a ha => k.sub.P a ((e a).mp ha)⟩, nd⟩
theorem step_grp {n : Nat} {T H H' : Lli} {x : List Int} (t : Grp (pm n) T) (h : Grp (pm n) H) (le : ∀ y ∈ H, y ∈ T) (hx : nextD T H = some x) (nd : H'.Nodup) (e : ∀ y, y ∈ H' ↔ y ∈ H ++ H.map (mul x)) : Grp (pm n) H' ∧ (∀ y ∈ H', y ∈ T) ∧ H'.length = 2 * H.length ∧ Dm (pm n) T H x := by
  have d : Dm (pm n) T H x := dmB_ok (List.mem_of_find?_eq_some hx) (by have z := List.find?_some hx; exact z)
  have k2 := coset2 (M := pm n) h (t.sub.P x d.g) d.n d.sq (d.past t h le)
  refine ⟨grp_same k2 nd e, fun y hy => ?_, ?_, d⟩
  · rcases List.mem_append.mp ((e y).mp hy) with z | z
    · exact le y z
    · obtain ⟨a, ha, rfl⟩ := List.mem_map.mp z
      exact t.sub.mul x d.g a (le a ha)
  · have z : H'.length = (H ++ H.map (mul x)).length := Nat.le_antisymm (len_le nd fun y hy => (e y).mp hy) (len_le k2.nd fun y hy => (e y).mpr hy)
    rw [List.length_append, List.length_map] at z
    omega
theorem Path.here {n : Nat} {T H0 : Lli} (t : Grp (pm n) T) (h0 : Grp (pm n) H0) (le : ∀ y ∈ H0, y ∈ T) (s0 : Srt H0) : ∀ {L : List Lli}, Path T H0 L → ∃ C H, L = C ++ [H] ∧ Here1 n T H0 C H := by
  intro L p
  induction p with
  | start => exact ⟨[], H0, rfl, h0, le, s0, by simp, List.length_pos_of_mem h0.sub.one⟩
  | step p hx sH nd e ih =>
    rename_i C H H' x
    obtain ⟨C', K, eC, hr⟩ := ih
    obtain ⟨e1, e2⟩ := snoc_inj eC
    subst e1 e2
    obtain ⟨g1, g2, g3, _⟩ := step_grp t hr.g hr.le hx nd e
    refine ⟨_, _, rfl, g1, g2, sH, ?_, ?_⟩
    · rw [g3, hr.len, List.length_append, List.length_singleton, Nat.pow_succ]
      rw [Nat.mul_comm 2, Nat.mul_assoc]
    · have := hr.cl
      rw [List.length_append, List.length_singleton]
      omega
theorem Path.uniq {T H0 : Lli} : ∀ {L M : List Lli}, Path T H0 L → Path T H0 M → L.length = M.length → L = M := by
  intro L M p
  induction p generalizing M with
  | start =>
    intro q l
    cases q with
    | start => rfl
    | step q _ _ _ _ => simp at l
  | step p hx sH nd e ih =>
    intro q l
    cases q with
    | start => simp at l
    | step q hx2 sH2 nd2 e2 =>
      have z := ih q (by simpa using l)
      obtain ⟨z1, z2⟩ := snoc_inj z
      subst z1 z2
      rw [hx] at hx2
      cases hx2
      rw [srt_uniq sH sH2 nd nd2 fun y => (e y).trans (e2 y).symm]
/-- the path to the whole table -/
def Full (T H0 : Lli) (L : List Lli) : Prop := Path T H0 L ∧ ∃ C, L = C ++ [T]
theorem Full.uniq {n : Nat} {T H0 : Lli} (t : Grp (pm n) T) (h0 : Grp (pm n) H0) (le : ∀ y ∈ H0, y ∈ T) (s0 : Srt H0) {L M : List Lli} (p : Full T H0 L) (q : Full T H0 M) : L = M := by
  obtain ⟨p1, C, rfl⟩ := p
  obtain ⟨q1, B, rfl⟩ := q
  obtain ⟨C', H, e, h⟩ := p1.here t h0 le s0
  obtain ⟨B', K, f, k⟩ := q1.here t h0 le s0
  obtain ⟨rfl, rfl⟩ := snoc_inj e
  obtain ⟨rfl, rfl⟩ := snoc_inj f
  have pos := List.length_pos_of_mem h0.sub.one
  have z : 2 ^ C.length = 2 ^ B.length := Nat.eq_of_mul_eq_mul_left pos (h.len.symm.trans k.len)
  have len : C.length = B.length := by
    rcases Nat.lt_trichotomy C.length B.length with c | c | c
    · have := Nat.pow_lt_pow_right (a := 2) (by decide) c
      omega
    · exact c
    · have := Nat.pow_lt_pow_right (a := 2) (by decide) c
      omega
  exact Path.uniq p1 q1 (by rw [List.length_append, List.length_append, len])
theorem next_some {n : Nat} {T H : Lli} (t : Tab n T) (h : Grp (pm n) H) (le : ∀ y ∈ H, y ∈ T) (lt : H.length < T.length) : ∃ x, nextD T H = some x := by
  obtain ⟨x, d⟩ := doubling _ T H (Nat.le_refl _) t.g h le t.pw lt
  cases c : nextD T H with
  | some y => exact ⟨y, rfl⟩
  | none => exact absurd (dmB_of d) (List.find?_eq_none.mp c x d.g)
theorem next_none {T H : Lli} (e : ∀ y ∈ T, y ∈ H) : nextD T H = none := find_none fun y hy => by
  unfold dmB
  rw [decide_eq_true (e y hy)]
  rfl
theorem all_of {T H : Lli} (nd : H.Nodup) (le : ∀ y ∈ H, y ∈ T) (l : T.length ≤ H.length) : ∀ y ∈ T, y ∈ H := fun y hy => Classical.byContradiction fun c => by
  have z := len_le (l := y :: H) (m := T) (List.nodup_cons.mpr ⟨c, nd⟩) fun a ha => by
    rcases List.mem_cons.mp ha with e | e
    · rw [e]
      exact hy
    · exact le a e
  rw [List.length_cons] at z
  omega
theorem whole_eq {n : Nat} {T H : Lli} (t : Tab n T) (h : Grp (pm n) H) (le : ∀ y ∈ H, y ∈ T) (s : Srt H) (l : T.length ≤ H.length) : H = T := srt_uniq s t.srt h.nd t.g.nd fun y => ⟨le y, all_of h.nd le l y⟩
/-- what is fixed at a point -/
theorem stab_grp {n : Nat} {T : Lli} (t : Grp (pm n) T) {p : Int} (p0 : 0 ≤ p) (p1 : p < n) : Grp (pm n) (stab T p) := by
  unfold stab
  refine ⟨⟨List.mem_filter.mpr ⟨t.sub.one, decide_eq_true (idl_get p0 p1)⟩, fun a ha b hb => ?_, fun a ha => t.sub.P a (List.mem_filter.mp ha).1⟩, t.nd.filter _⟩
  obtain ⟨a1, a2⟩ := List.mem_filter.mp ha
  obtain ⟨b1, b2⟩ := List.mem_filter.mp hb
  have pb : PermL n b := t.sub.P b b1
  refine List.mem_filter.mpr ⟨t.sub.mul a a1 b b1, decide_eq_true ?_⟩
  have z : getI (mul a b) p = getI a (getI b p) := getI_map p0 (by rw [pb.len]; exact p1)
  show getI (mul a b) p = p
  rw [z, of_decide_eq_true b2, of_decide_eq_true a2]
theorem stab_le {T : Lli} {p : Int} : ∀ y ∈ stab T p, y ∈ T := fun y hy => (List.mem_filter.mp hy).1
theorem stab_srt {T : Lli} {p : Int} (s : Srt T) : Srt (stab T p) := List.Pairwise.filter _ s
theorem stab_tab {n : Nat} {T : Lli} (t : Tab n T) {p : Int} (p0 : 0 ≤ p) (p1 : p < n) : Tab n (stab T p) := by
  have g := stab_grp t.g p0 p1
  have l := lagrange t.g g stab_le
  obtain ⟨b, hb⟩ := t.pw
  refine ⟨t.n1, t.n64, g, stab_srt t.srt, (pow_part b (h := (stab T p).length) (m := (reps (pm n) T (stab T p)).length) (by rw [Nat.mul_comm, ← l, hb])).1, Nat.le_trans (len_le g.nd stab_le) t.len⟩
def tupT (L : Lli) : D := .tuple (L.map encI)
def lstT (L : Lli) : D := .list (L.map encI)
theorem last_at (C : List Lli) (H : Lli) (f : Lli → D) : atI ((C ++ [H]).map f) (-1) = some (f H) := by
  rw [List.map_append]
  exact atI_last _ _
def S_hsteps : Spc := fun as R => ∃ (t : Bool) (n : Nat) (T : Lli) (p : Int), as = [.cl (wholeD t T), .cl (.int p)] ∧ Tab n T ∧ 0 ≤ p ∧ p < n ∧ ∀ C a, Full T (stab T p) C → R (.cl, .tuple [.tuple (C.map tupT), a])
def G8 : List Spc := [S_frozen 3, S_identity, S_compose, S_inverse, S_closure, S_generatedT, S_stab, S_doubling]
theorem w_hsteps : Ans G8 2 6 ir_halving_steps S_hsteps := by
  rintro as R ⟨t, n, T, p, rfl, tb, p0, p1, q⟩
  have n64 := tb.n64
  have tl := tb.len
  have hP : ∀ x ∈ T, PermL n x := tb.g.sub.P
  have g0 := stab_grp tb.g p0 p1
  refine ⟨rfl, _, [.cl (wholeD t T)], _, rfl, ⟨rfl, True.intro⟩, ⟨_, .tuple (T.map encI), rfl, fz_whole (by omega) (fun x hx => by rw [(hP x hx).len]; omega), ?_⟩, fun _ h => h⟩
  refine ⟨_, [.cl _, .cl _], _, rfl, ⟨rfl, rfl, True.intro⟩, ⟨n, T, p, rfl, by omega, hP, p0, p1, ?_⟩, fun _ h => h⟩
  refine ⟨_, rfl, s1, _, rfl, s0, ?_⟩
  refine ⟨fun m ρ => ∃ (C : List Lli) (H : Lli) (add : List D) (s5 : Sl), ρ = [.fz (wholeD t T), .fz (.int p), .fz (.tuple (T.map encI)), .ol ((C ++ [H]).map tupT), .ol add, s5] ∧ Path T (stab T p) (C ++ [H]) ∧ m = T.length - H.length ∧ add.length ≤ C.length,
    ⟨_, [], stab T p, [], .un, rfl, .start, rfl, Nat.le_refl _⟩, ?_⟩
  rintro m ρ ⟨C, H, add, s5, rfl, path, rfl, ha⟩
  obtain ⟨C', H', e, hr⟩ := path.here tb.g g0 stab_le (stab_srt tb.srt)
  obtain ⟨rfl, rfl⟩ := snoc_inj e
  have hl : H.length ≤ T.length := len_le hr.g.nd hr.le
  have cl := hr.cl
  have hHP : ∀ x ∈ H, PermL n x := hr.g.sub.P
  refine ⟨1, rfl, _, last_at C H tupT, _, rfl, ite3 (fun c => ?_) (fun c => ?_)⟩
  · have c : H.length < T.length := by
      have c : (((H.map encI).length : Nat) : Int) < ((T.map encI).length : Nat) := c
      rw [List.length_map, List.length_map] at c
      omega
    obtain ⟨x, hx⟩ := next_some tb hr.g hr.le c
    have xT : x ∈ T := List.mem_of_find?_eq_some hx
    refine ⟨1, rfl, _, last_at C H tupT, ?_⟩
    refine ⟨_, [.cl (.tuple (T.map encI)), .cl (.tuple (H.map encI))], _, rfl, ⟨rfl, rfl, True.intro⟩, ⟨n, T, H, rfl, by omega, by omega, by omega, hr.g.nd, hP, hHP, ?_⟩, fun _ h => h⟩
    rw [hx]
    refine ⟨small' (by omega), _, rfl, ?_⟩
    refine ⟨small' (by rw [List.length_map, List.length_append, List.length_singleton]; omega), ?_⟩
    refine ⟨1, rfl, _, last_at C H tupT, _, rfl, s1, small (by rw [List.length_map]; show H.length + 1 ≤ _; omega), ?_⟩
    have px := hP x xT
    have xl : ((x.map PyData.int).length : Int) = n := by rw [List.length_map, px.len]
    have gT : ∀ g ∈ H ++ [x], g ∈ T := fun g hg => (List.mem_append.mp hg).elim (hr.le g) fun z => by
      rw [List.mem_singleton.mp z]
      exact xT
    refine ⟨_, [.cl (.int n), .cl (.tuple ((H ++ [x]).map encI))], _, rfl, ⟨congrArg (fun i : Int => some (PyData.int i)) xl, by rw [List.map_append]; rfl, True.intro⟩, ⟨n, H ++ [x], T, rfl, tb.n1, by omega, by rw [List.length_append, List.length_singleton]; omega, fun g hg => hP g (gT g hg), fun y g => g.in tb.g.sub gT, by omega, fun L sL cL => ?_⟩, fun _ h => h⟩
    have d : Dm (pm n) T H x := dmB_ok xT (by have z := List.find?_some hx; exact z)
    have k2 := coset2 (M := pm n) hr.g px d.n d.sq (d.past tb.g hr.g hr.le)
    have eL : ∀ y, y ∈ L ↔ y ∈ H ++ H.map (mul x) := fun y => by
      rw [cL.mem]
      refine ⟨fun g => g.in k2.sub fun s hs => ?_, fun hy => ?_⟩
      · rcases List.mem_append.mp hs with z | z
        · exact List.mem_append_left _ z
        · rw [List.mem_singleton.mp z]
          exact List.mem_append_right _ (List.mem_map.mpr ⟨_, hr.g.sub.one, (pm n).mul_one px⟩)
      · rcases List.mem_append.mp hy with z | z
        · exact .of (M := pm n) (hHP y z) (List.mem_append_left _ z)
        · obtain ⟨a, ha, rfl⟩ := List.mem_map.mp z
          exact .step (M := pm n) (List.mem_append_right _ (.head _)) (.of (M := pm n) (hHP a ha) (List.mem_append_left _ ha))
    obtain ⟨g1, g2, g3, _⟩ := step_grp tb.g hr.g hr.le hx cL.nd eL
    refine ⟨_, rfl, T.length - L.length, by omega, C ++ [H], L, add ++ [encI x], .fz (encI x), ?_, .step path hx sL cL.nd eL, rfl, by rw [List.length_append, List.length_append, List.length_singleton, List.length_singleton]; omega⟩
    rw [List.map_append (f := tupT) (l₁ := C ++ [H])]
    rfl
  · have c : T.length ≤ H.length := by
      have c : ¬ (((H.map encI).length : Nat) : Int) < ((T.map encI).length : Nat) := c
      rw [List.length_map, List.length_map] at c
      omega
    have eH := whole_eq tb hr.g hr.le hr.srt c
    exact ⟨_, rfl, two, .inr rfl, q _ _ ⟨path, C, by rw [eH]⟩⟩
def S_hchain : Spc := fun as R => ∃ (t : Bool) (n : Nat) (T : Lli) (p : Int), as = [.cl (wholeD t T), .cl (.int p)] ∧ Tab n T ∧ 0 ≤ p ∧ p < n ∧ ∀ C, Full T (stab T p) C → R (.cl, .tuple (C.map tupT))
theorem w_hchain : Ans (G8 ++ [S_hsteps]) 2 2 ir_halving_chain S_hchain := by
  rintro as R ⟨t, n, T, p, rfl, tb, p0, p1, q⟩
  refine ⟨rfl, _, [.cl (wholeD t T), .cl _], _, rfl, ⟨rfl, rfl, True.intro⟩, ⟨t, n, T, p, rfl, tb, p0, p1, fun C a f => ?_⟩, fun _ h => h⟩
  exact ⟨_, rfl, .inr rfl, q C f⟩
end K45

set_option Elab.async false
set_option linter.all false
set_option maxRecDepth 100000
set_option maxHeartbeats 4000000
/-! K45f: the law's own defs over tables. -/
namespace K45
open PySem
open L2
open Ir
open Gp
open Pm
open Kb
def S_whole : Spc := fun as R => ∃ i : Int, as = [.cl (.int i)] ∧ R (.cl, .bool true)
theorem w_whole {Γ : List Spc} : Ans Γ 1 1 ir_law_whole S_whole := by
  rintro as R ⟨i, rfl, q⟩
  exact ⟨rfl, _, rfl, iteT ⟨_, rfl, .inr rfl, q⟩⟩
theorem w_same {Γ : List Spc} : Ans Γ 2 2 ir_law_same S_same := by
  rintro as R ⟨d, rfl, h, hd, q⟩
  have fit : d.shown.length ≤ sizeLine := PyData.shown_fits_bulk (B := 13) (by decide) (by decide) h.ls h.bk
  have dep := h.dp
  refine ⟨rfl, h.sh, h.nd, hd, Nat.le_trans dep (by decide), fit, h.sh, h.nd, hd, Nat.le_trans dep (by decide), fit, .inr rfl, ?_⟩
  have e : decide (d.shown = d.shown) = true := decide_eq_true rfl
  show R (.cl, .bool (decide (d.shown = d.shown)))
  rw [e]
  exact q
def S_handed : Spc := fun as R => ∃ (T : Lli) (b : Bool), as = [.cl (.list (T.map encI)), .cl (.bool b)] ∧ T.length ≤ 1000 ∧ (b = true → R (.fr, wholeD false T)) ∧ (b = false → R (.cl, wholeD true T))
theorem w_handed {Γ : List Spc} : Ans Γ 2 3 ir_law_handed S_handed := by
  rintro as R ⟨T, b, rfl, hl, q1, q2⟩
  refine ⟨rfl, (fun z h => nomatch h), (fun z h => nomatch h), b, rfl, ?_⟩
  cases b with
  | true =>
    refine iteT ?_
    refine lc_allE (fun d => encL (unT d)) (T.map encL) ?_ (fun d P p => p) (small (by rw [List.length_map]; show 0 + T.length ≤ _; omega)) (fun d hd P hP => ?_) ⟨.inl rfl, q1 rfl⟩
    · rw [List.nil_append, List.map_map]
      refine List.map_congr_left fun x _ => ?_
      show encL (unT (encI x)) = encL x
      rw [un_enc]
    · obtain ⟨x, hx, rfl⟩ := List.mem_map.mp hd
      exact hP _ (congrArg (fun z => some (encL z)) (un_enc x).symm)
  | false =>
    refine iteF ?_
    refine lc_allE (fun d => d) (T.map encI) (by rw [List.nil_append]; exact map_same) (fun d P p => p) (small (by rw [List.length_map]; show 0 + T.length ≤ _; omega)) (fun d hd P hP => ?_) ⟨.inr rfl, q2 rfl⟩
    obtain ⟨x, hx, rfl⟩ := List.mem_map.mp hd
    exact hP _ rfl
def S_left : Spc := fun as R => ∃ (n : Nat) (H : Lli) (x : List Int), as = [.cl (.list (H.map encI)), .cl (encI x)] ∧ n ≤ 1000 ∧ H.length ≤ 1000 ∧ (∀ y ∈ H, PermL n y) ∧ PermL n x ∧ R (.fr, .list ((H.map (mul x)).map encI))
theorem w_left {Γ : List Spc} (hΓ : Γ[14]? = some S_compose) : Ans Γ 2 3 ir_law_left S_left := by
  rintro as R ⟨n, H, x, rfl, hn, hl, hH, px, q⟩
  refine ⟨rfl, ?_⟩
  refine lc_allE (fun d => encI (mul x (unT d))) ((H.map (mul x)).map encI) ?_ (fun d P p => p) (small (by rw [List.length_map]; show 0 + H.length ≤ _; omega)) (fun d hd P hP => ?_) ⟨.inl rfl, q⟩
  · rw [List.nil_append, List.map_map, List.map_map]
    refine List.map_congr_left fun y _ => ?_
    show encI (mul x (unT (encI y))) = encI (mul x y)
    rw [un_enc]
  · obtain ⟨y, hy, rfl⟩ := List.mem_map.mp hd
    have py := hH y hy
    exact ⟨_, [.cl _, .cl _], _, hΓ, ⟨rfl, rfl, True.intro⟩, ⟨x, y, rfl, fun e he => by rw [px.len]; exact py.rg e he, by rw [py.len]; exact hn, hP _ (congrArg (fun z => some (encI (mul x z))) (un_enc y).symm)⟩, fun _ h => h⟩
/-! dicts by what is in them -/
def Keys (kvs : List (D × D)) (S : Lli) : Prop := (∀ y, (lookD kvs (encI y)).isSome = decide (y ∈ S)) ∧ kvs.length ≤ S.length
theorem Keys.nil : Keys [] [] := ⟨fun y => by rw [look_nil]; simp, Nat.le_refl _⟩
theorem Keys.put {kvs : List (D × D)} {S : Lli} {k : List Int} {v : D} (h : Keys kvs S) : Keys (putD kvs (encI k) v) (S ++ [k]) := by
  refine ⟨fun y => ?_, by have := putD_len kvs (encI k) v; have := h.2; rw [List.length_append, List.length_singleton]; omega⟩
  have e : (lookD (putD kvs (encI k) v) (encI y)).isSome = true ↔ y ∈ S ++ [k] := by
    rw [look_keys, put_keys, ← look_keys, h.1 y, decide_eq_true_eq, List.mem_append, List.mem_singleton]
    refine ⟨fun z => z.elim (fun z => .inr (encI_inj z)) .inl, fun z => z.elim .inr fun z => .inl (by rw [z])⟩
  by_cases c : y ∈ S ++ [k]
  · rw [e.mpr c, decide_eq_true c]
  · rw [decide_eq_false c]
    cases z : (lookD (putD kvs (encI k) v) (encI y)).isSome with
    | false => rfl
    | true => exact absurd (e.mp z) c
def S_added : Spc := fun as R => ∃ (n : Nat) (T H : Lli), as = [.cl (.list (T.map encI)), .cl (.list (H.map encI))] ∧ n ≤ 1000 ∧ T.length ≤ 1000 ∧ H.length ≤ 1000 ∧ (∀ x ∈ T, PermL n x) ∧ (∀ x ∈ H, PermL n x) ∧ R (.cl, optD (nextD T H))
theorem filt_len (p : List Int → Bool) (L : Lli) : decide (((((L.filter fun y => !p y)).map encI).length : Int) = 0) = L.all p := by
  rw [List.length_map]
  induction L with
  | nil => rfl
  | cons y L ih =>
    rw [List.filter_cons, List.all_cons]
    cases c : p y with
    | true =>
      rw [if_neg (by decide), ih]
      rfl
    | false =>
      rw [if_pos (show (!false) = true from rfl), List.length_cons]
      show decide (((_ + 1 : Nat) : Int) = 0) = false
      exact decide_eq_false (by omega)
theorem w_added {Γ : List Spc} (hc : Γ[14]? = some S_compose) (hL : Γ[27]? = some S_left) : Ans Γ 2 6 ir_law_added S_added := by
  rintro as R ⟨n, T, H, rfl, hn, hTl, hHl, hT, hH, q⟩
  have comp : ∀ (a b : List Int) (Q : Post), PermL n a → PermL n b → Q (.cl, encI (mul a b)) → S_compose [.cl (encI a), .cl (encI b)] Q := fun a b Q pa pb q => ⟨a, b, rfl, fun e he => by rw [pa.len]; exact pb.rg e he, by rw [pb.len]; exact hn, q⟩
  refine ⟨rfl, [], rfl, rfl, by decide, ?_⟩
  refine ⟨(fun z => nomatch z), fun j ρ => ∃ (kvs : List (D × D)) (s3 : Sl), ρ = [.fz (.list (T.map encI)), .fz (.list (H.map encI)), .od true kvs, s3, .un, .un] ∧ Keys kvs (H.take j), ⟨[], .un, rfl, by rw [List.take_zero]; exact Keys.nil⟩, ?_, ?_⟩
  · rintro j d ρ hjd ⟨kvs, s3, rfl, hk⟩
    obtain ⟨x, hxj, rfl⟩ := enc_of hjd
    have l := hk.2
    rw [List.length_take] at l
    refine ⟨_, rfl, rfl, key_enc _, small' (by omega), _, _, rfl, ?_⟩
    rw [List.take_add_one, hxj]
    exact hk.put
  rintro ρ ⟨kvs, s3, rfl, hk⟩
  rw [List.length_map, List.take_length] at hk
  refine ⟨(fun z => nomatch z), fun j ρ => ∃ (s3 s4 s5 : Sl), ρ = [.fz (.list (T.map encI)), .fz (.list (H.map encI)), .od true kvs, s3, s4, s5] ∧ ∀ y ∈ T.take j, dmB H y = false, ⟨s3, .un, .un, rfl, fun y h => by rw [List.take_zero] at h; cases h⟩, ?_, ?_⟩
  · rintro j d ρ hjd ⟨s3, s4, s5, rfl, hno⟩
    obtain ⟨x, hxj, rfl⟩ := enc_of hjd
    have px := hT x (List.mem_of_getElem? hxj)
    refine ⟨rfl, key_enc _, _, rfl, ?_⟩
    rw [hk.1]
    refine ite4 (fun c => ?_) fun c => ?_
    · refine ⟨_, [.cl _, .cl _], _, hc, ⟨rfl, rfl, True.intro⟩, comp x x _ px px ?_, fun _ h => h⟩
      refine ⟨rfl, key_enc _, _, rfl, ?_⟩
      rw [hk.1]
      refine ite3 (fun c2 => ?_) fun c2 => ?_
      · refine ⟨[], rfl, rfl, by decide, ?_⟩
        refine ⟨(fun z => nomatch z), fun i ρ => ∃ (kv2 : List (D × D)) (s3 : Sl), ρ = [.fz (.list (T.map encI)), .fz (.list (H.map encI)), .od true kvs, s3, .fz (encI x), .od true kv2] ∧ Keys kv2 ((H.take i).map fun k => mul k x), ⟨[], s3, rfl, by rw [List.take_zero]; exact Keys.nil⟩, ?_, ?_⟩
        · rintro i d ρ hid ⟨kv2, s3, rfl, hk2⟩
          obtain ⟨y, hyi, rfl⟩ := enc_of hid
          have py := hH y (List.mem_of_getElem? hyi)
          have l := hk2.2
          rw [List.length_map, List.length_take] at l
          refine ⟨_, rfl, ?_⟩
          refine ⟨_, [.cl _, .cl _], _, hc, ⟨rfl, rfl, True.intro⟩, comp y x _ py px ?_, fun _ h => h⟩
          refine ⟨rfl, key_enc _, small' (by omega), _, _, rfl, ?_⟩
          rw [List.take_add_one, hyi, List.map_append]
          exact hk2.put
        rintro ρ ⟨kv2, s3, rfl, hk2⟩
        rw [List.length_map, List.take_length] at hk2
        refine ⟨_, [.cl _, .cl _], _, hL, ⟨rfl, rfl, True.intro⟩, ⟨n, H, x, rfl, hn, hHl, hH, px, ?_⟩, fun _ h => h⟩
        refine lc_keep (p := fun y => !decide (y ∈ H.map fun k => mul k x)) (H.map (mul x)) [] (by rw [List.length_map]; show 0 + H.length ≤ _; omega) (fun y hy P hP => ?_) (fun y hy P hP => hP) ?_
        · refine ⟨rfl, key_enc _, _, rfl, ?_⟩
          rw [hk2.1]
          exact hP
        · refine ⟨_, rfl, ?_⟩
          rw [List.nil_append]
          have e := filt_len (fun y => decide (y ∈ H.map fun k => mul k x)) (H.map (mul x))
          rw [List.all_map] at e
          have eD : dmB H x = H.all ((fun y => decide (y ∈ H.map fun k => mul k x)) ∘ mul x) := by
            unfold dmB
            rw [decide_eq_false c, decide_eq_true c2]
            rfl
          rw [← eD] at e
          show if decide ((((((H.map (mul x)).filter fun y => !decide (y ∈ H.map fun k => mul k x))).map encI).length : Int) = 0) = true then _ else _
          rw [e]
          cases cb : dmB H x with
          | true =>
            refine iteT ?_
            have z : nextD T H = some x := find_first hxj cb hno
            rw [z] at q
            exact ⟨.inr rfl, q⟩
          | false => exact iteF ⟨_, _, _, rfl, fun y hy => (take_step hxj y hy).elim (hno y) fun e => e ▸ cb⟩
      · exact ⟨_, _, _, rfl, fun y hy => (take_step hxj y hy).elim (hno y) fun e => e ▸ by
          unfold dmB
          rw [decide_eq_false c2, Bool.and_false]
          rfl⟩
    · exact ⟨_, rfl, iteF ⟨_, _, _, rfl, fun y hy => (take_step hxj y hy).elim (hno y) fun e => e ▸ by
        unfold dmB
        rw [decide_eq_true c]
        rfl⟩⟩
  · rintro ρ ⟨s3, s4, s5, rfl, hno⟩
    rw [List.length_map, List.take_length] at hno
    have z : nextD T H = none := find_none hno
    rw [z] at q
    exact ⟨.inr rfl, q⟩
def S_chain : Spc := fun as R => ∃ (n : Nat) (T : Lli) (p : Int), as = [.cl (.list (T.map encI)), .cl (.int p)] ∧ Tab n T ∧ 0 ≤ p ∧ p < n ∧ ∀ C, Full T (stab T p) C → R (.fr, .list (C.map lstT))
theorem w_chain {Γ : List Spc} (hA : Γ[28]? = some S_added) (hL : Γ[27]? = some S_left) : Ans Γ 2 6 ir_law_chain S_chain := by
  rintro as R ⟨n, T, p, rfl, tb, p0, p1, q⟩
  have n64 := tb.n64
  have tl := tb.len
  have hP : ∀ x ∈ T, PermL n x := tb.g.sub.P
  have g0 := stab_grp tb.g p0 p1
  refine ⟨rfl, ?_⟩
  refine lc_keep (p := fun x => decide (getI x p = p)) T [] (by show 0 + T.length ≤ _; omega) (fun x hx P hP' => ?_) (fun x hx P hP => hP) ?_
  · have px := hP x hx
    exact ⟨_, at_enc p0 (by rw [px.len]; exact p1), _, rfl, hP'⟩
  refine ⟨_, rfl, s1, ?_⟩
  refine ⟨by decide, by decide, (fun z => nomatch z), fun j ρ => ∃ (C : List Lli) (H : Lli) (s3 s4 : Sl), ρ = [.fz (.list (T.map encI)), .fz (.int p), .ol ((C ++ [H]).map lstT), s3, s4, .un] ∧ Path T (stab T p) (C ++ [H]) ∧ C.length = j, ⟨[], stab T p, .un, .un, rfl, .start, rfl⟩, ?_, ?_⟩
  · rintro j d ρ hjd ⟨C, H, s3, s4, rfl, path, hj⟩
    obtain ⟨C', H', e, hr⟩ := path.here tb.g g0 stab_le (stab_srt tb.srt)
    obtain ⟨rfl, rfl⟩ := snoc_inj e
    have hl : H.length ≤ T.length := len_le hr.g.nd hr.le
    have cl := hr.cl
    have hHP : ∀ x ∈ H, PermL n x := hr.g.sub.P
    refine ⟨1, rfl, _, last_at C H lstT, ?_⟩
    refine ⟨_, [.cl (.list (T.map encI)), .cl (.list (H.map encI))], _, hA, ⟨rfl, rfl, True.intro⟩, ⟨n, T, H, rfl, by omega, by omega, by omega, hP, hHP, ?_⟩, fun _ h => h⟩
    by_cases c : H.length < T.length
    · obtain ⟨x, hx⟩ := next_some tb hr.g hr.le c
      have xT : x ∈ T := List.mem_of_find?_eq_some hx
      have px := hP x xT
      rw [hx]
      refine ⟨_, rfl, iteF ?_⟩
      refine ⟨small' (by rw [List.length_map, List.length_append, List.length_singleton]; omega), ?_⟩
      refine ⟨1, rfl, _, last_at C H lstT, 1, rfl, _, last_at C H lstT, ?_⟩
      refine ⟨_, [.cl (.list (H.map encI)), .cl (encI x)], _, hL, ⟨rfl, rfl, True.intro⟩, ⟨n, H, x, rfl, by omega, by omega, hHP, px, ?_⟩, fun _ h => h⟩
      refine ⟨(fun z => nomatch z), (fun z => nomatch z), small (by rw [List.length_map, List.length_map, List.length_map]; omega), ?_⟩
      have dm : Dm (pm n) T H x := dmB_ok xT (by have z := List.find?_some hx; exact z)
      have k2 := coset2 (M := pm n) hr.g px dm.n dm.sq (dm.past tb.g hr.g hr.le)
      refine ⟨H ++ H.map (mul x), n, by rw [List.map_append], tb.n1, fun m hm => (k2.sub.P m hm).len, fun L pL sL => ?_⟩
      have nd : L.Nodup := pL.nodup_iff.mpr k2.nd
      refine ⟨_, rfl, C ++ [H], L, .fz d, .fz (encI x), ?_, .step path hx sL nd fun y => pL.mem_iff, by rw [List.length_append, List.length_singleton, hj]⟩
      rw [List.map_append (f := lstT) (l₁ := C ++ [H])]
      rfl
    · have all := all_of hr.g.nd hr.le (show T.length ≤ H.length by omega)
      have z : nextD T H = none := next_none all
      rw [z]
      refine ⟨_, rfl, iteT ?_⟩
      have eH := whole_eq tb hr.g hr.le hr.srt (by omega)
      exact q _ ⟨path, C, by rw [eH]⟩
  · rintro ρ ⟨C, H, s3, s4, rfl, path, hj⟩
    obtain ⟨C', H', e, hr⟩ := path.here tb.g g0 stab_le (stab_srt tb.srt)
    obtain ⟨rfl, rfl⟩ := snoc_inj e
    have hl : H.length ≤ T.length := len_le hr.g.nd hr.le
    have pos := List.length_pos_of_mem g0.sub.one
    have e8 : C.length = 8 := by rw [hj, List.length_map, List.length_range]; rfl
    have z := hr.len
    rw [e8] at z
    have : H.length = (stab T p).length * 256 := z
    omega
end K45

set_option Elab.async false
set_option linter.all false
set_option maxRecDepth 100000
set_option maxHeartbeats 4000000
/-! K45g: the law's closed and accepted, its judge, what it asks. -/
namespace K45
open PySem
open L2
open Ir
open Gp
open Pm
open Kb
def S_closed : Spc := fun as R => ∃ (n m : Nat) (gens : Lli), as = [.cl (.int n), .sh (gens.map encI), .cl (.int m)] ∧ n ≤ 1000 ∧ 1 ≤ m ∧ m ≤ 1000 ∧ (∀ g ∈ gens, PermL n g) ∧
  (∀ L, Cl (pm n) gens L → L.length ≤ m → R (.fr, .list (L.map encI))) ∧ ((∀ U : Lli, (∀ x, Gen (pm n) (· ∈ gens) x → x ∈ U) → m < U.length) → R (.cl, .none))
theorem w_closed {Γ : List Spc} (hc : Γ[14]? = some S_compose) : Ans Γ 3 9 ir_law_closed S_closed := by
  rintro as R ⟨n, most, gens, rfl, hn, hm1, hm, hg, q, qn⟩
  refine ⟨rfl, ⟨by omega, by omega, ?_⟩⟩
  refine lc_idl (fun k => k) n (idl n) (List.map_id _) hn (fun d P p => p) (fun k P hk p => p) ?_
  refine ⟨_, rfl, s1, _, rfl, [(encI (idl n), .bool true)], rfl, by simp [key_enc], by show 1 ≤ 15; decide, ?_⟩
  have e0 : ([(encI (idl n), PyData.bool true)].foldl (fun acc e => putD acc e.1 e.2) ([] : List (D × D))) = [(encI (idl n), .bool true)] := put_new fun ⟨e, m, _⟩ => nomatch m
  have h0 : In0 n gens [idl n] ([(encI (idl n), PyData.bool true)].foldl (fun acc e => putD acc e.1 e.2) ([] : List (D × D))) := by
    rw [e0]
    exact In0.start n gens _
  refine ⟨by omega, by omega, (fun z => nomatch z), fun k ρ => ∃ (L : Lli) (kvs : List (D × D)) (s4 s5 s6 s7 : Sl), ρ = [.fz (.int n), .sh (gens.map encI), .fz (.int most), .ol (L.map encI), .od true kvs, s4, s5, s6, s7] ∧ In0 n gens L kvs ∧ Done gens L k ∧ L.length ≤ most ∧ k ≤ L.length,
    ⟨[idl n], _, .un, .un, .un, .un, rfl, h0, (fun i _ h => absurd h (Nat.not_lt_zero i)), (by show 1 ≤ most; exact hm1), Nat.zero_le _⟩, ?_, ?_⟩
  · rintro k d ρ hkd ⟨L, kvs, s4, s5, s6, s7, rfl, hi, hd, hl, hkL⟩
    obtain ⟨hk, rfl⟩ := range_at hkd
    refine ⟨_, rfl, ite3 (fun c => ?_) (fun c => ?_)⟩
    · have c : (k : Int) = ((L.map encI).length : Nat) := c
      rw [List.length_map] at c
      exact q L (hd.cl hi (by omega)) hl
    · have c : k < L.length := by
        have c : ¬ (k : Int) = ((L.map encI).length : Nat) := c
        rw [List.length_map] at c
        omega
      obtain ⟨x, hx⟩ : ∃ x, L[k]? = some x := ⟨_, List.getElem?_eq_getElem c⟩
      have px : PermL n x := hi.P hg (List.mem_of_getElem? hx)
      refine ⟨(fun z => nomatch z), fun j ρ => ∃ (L' : Lli) (kvs' : List (D × D)) (s5 s6 s7 : Sl), ρ = [.fz (.int n), .sh (gens.map encI), .fz (.int most), .ol (L'.map encI), .od true kvs', .fz (.int k), s5, s6, s7] ∧ In1 n gens L k x j L' kvs' ∧ L'.length ≤ most, ⟨L, kvs, s5, s6, s7, rfl, In1.start hi hd hx, hl⟩, ?_, ?_⟩
      · rintro j d ρ hjd ⟨L', kvs', s5, s6, s7, rfl, h1, hl'⟩
        obtain ⟨g, hgj, rfl⟩ := enc_of hjd
        have pg := hg g (List.mem_of_getElem? hgj)
        refine ⟨_, at_nat (enc_at h1.at'), ?_⟩
        refine ⟨_, [.cl _, .cl _], _, hc, ⟨rfl, rfl, True.intro⟩, ⟨g, x, rfl, fun e he => by rw [pg.len]; exact px.rg e he, by rw [px.len]; exact hn, ?_⟩, fun _ h => h⟩
        refine ⟨rfl, key_enc _, _, rfl, ?_⟩
        rw [h1.i.look]
        refine ite4 (fun c => ?_) fun c => ?_
        · refine ⟨_, rfl, ite3 (fun c2 => ⟨.inr rfl, qn fun U hU => ?_⟩) (fun c2 => ?_)⟩
          · have c2 : (((L'.map encI).length : Nat) : Int) = most := c2
            rw [List.length_map] at c2
            have h2 := h1.add (v := .none) h1.le hgj c
            have := len_le h2.i.nd fun y hy => hU y (h2.i.gen y hy)
            rw [List.length_append, List.length_singleton] at this
            omega
          · have c2 : L'.length < most := by
              have c2 : ¬ (((L'.map encI).length : Nat) : Int) = most := c2
              rw [List.length_map] at c2
              omega
            refine ⟨_, rfl, rfl, key_enc _, small' (by rw [h1.i.len]; omega), ?_⟩
            refine ⟨small' (by rw [List.length_map]; omega), _, rfl, ?_⟩
            exact ⟨L' ++ [mul g x], _, _, _, _, by rw [List.map_append]; rfl, h1.add h1.le hgj c, by rw [List.length_append, List.length_singleton]; omega⟩
        · exact ⟨L', kvs', _, _, _, rfl, h1.skip hgj c, hl'⟩
      · rintro ρ ⟨L', kvs', s5, s6, s7, rfl, h1, hl'⟩
        rw [List.length_map] at h1
        have := h1.le
        exact ⟨L', kvs', _, _, _, _, rfl, h1.i, h1.done, hl', by omega⟩
  · rintro ρ ⟨L, kvs, s4, s5, s6, s7, rfl, hi, hd, hl, hkL⟩
    rw [List.length_map, List.length_range, Int.toNat_natCast] at hd
    exact q L (hd.cl hi hl) hl
theorem pow_list : ∀ l : Nat, l ≤ 128 → (([1, 2, 4, 8, 16, 32, 64, 128] : List Int).map PyData.int).any (fun z => PyData.eqv z (.int l)) = true → ∃ b, l = 2 ^ b := by
  intro l _ h
  obtain ⟨z, hz, e⟩ := List.any_eq_true.mp h
  obtain ⟨i, hi, rfl⟩ := List.mem_map.mp hz
  have e : i = l := by
    unfold PyData.eqv at e
    exact eq_of_beq e
  subst e
  simp only [List.mem_cons, List.not_mem_nil, or_false] at hi
  rcases hi with h | h | h | h | h | h | h | h
  · exact ⟨0, by omega⟩
  · exact ⟨1, by omega⟩
  · exact ⟨2, by omega⟩
  · exact ⟨3, by omega⟩
  · exact ⟨4, by omega⟩
  · exact ⟨5, by omega⟩
  · exact ⟨6, by omega⟩
  · exact ⟨7, by omega⟩
def S_accepted : Spc := fun as R => ∃ (n : Nat) (L : Lli), as = [.cl (.int n), .cl (.list (L.map encI)), .cl (.int 128)] ∧ 1 ≤ n ∧ n ≤ 64 ∧ L.length ≤ 1000 ∧ (∀ x ∈ L, PermL n x) ∧ ∀ (fd : D) (T : Lli), Tab n T → R (.fr, .list [fd, .list (T.map encI)])
theorem w_accepted {Γ : List Spc} (hC : Γ[15]? = some S_closed) : Ans Γ 3 8 ir_law_accepted S_accepted := by
  rintro as R ⟨n, L, rfl, hn1, hn, hLl, hp, q⟩
  refine ⟨rfl, _, rfl, s0, ?_⟩
  refine ⟨_, [.cl _, .sh [], .cl (.int (128 : Nat))], _, hC, ⟨rfl, ⟨(fun z => nomatch z), rfl⟩, rfl, True.intro⟩, ⟨n, 128, [], rfl, by omega, by decide, by decide, (fun g m => nomatch m), fun L0 hc0 hl0 => ?_, fun no => ?_⟩, fun _ h => h⟩
  · refine ⟨_, rfl, s0, ?_⟩
    have e1 : ∃ b, L0.length = 2 ^ b := ⟨0, by rw [hc0.nil]; rfl⟩
    refine ⟨(fun z => nomatch z), fun j ρ => ∃ (kept Lm fd : Lli) (s6 s7 : Sl), ρ = [.fz (.int n), .fz (.list (L.map encI)), .fz (.int 128), .ol (kept.map encI), .fz (.list (Lm.map encI)), .ol (fd.map encI), s6, s7] ∧
        Cl (pm n) kept Lm ∧ Lm.length ≤ 128 ∧ (∀ g ∈ kept, PermL n g) ∧ kept.length ≤ j ∧ fd.length ≤ j ∧ ∃ b, Lm.length = 2 ^ b, ⟨[], L0, [], .un, .un, rfl, hc0, hl0, (fun g h => nomatch h), Nat.zero_le _, Nat.zero_le _, e1⟩, ?_, ?_⟩
    · rintro j d ρ hjd ⟨kept, Lm, fd, s6, s7, rfl, hc, hl, hk, hkl, hfl, hb⟩
      obtain ⟨g, hgj, rfl⟩ := enc_of hjd
      have hjl := (List.getElem?_eq_some_iff.mp hgj).1
      have pg := hp g (List.mem_of_getElem? hgj)
      have sh : SeqAt.shaped (.list (Lm.map encI)) = true := (nc_list (fun x hx => (hc.sub hk).P x hx) (show n ≤ 1000 by omega) (Nat.le_refl _)).shaped (by decide)
      have shm : SeqAt.shaped (encI g) = true := (nc_it (t := true) pg (show n ≤ 1000 by omega)).shaped (by decide)
      refine ⟨shm, sh, _, rfl, ?_⟩
      have lk : ((Lm.map encI).any fun z => PyData.eqv z (encI g)) = decide (g ∈ Lm) := any_enc g Lm
      rw [lk]
      refine ite3 (fun c => ?_) fun c => ?_
      · refine ⟨small' (by rw [List.length_map]; omega), _, rfl, ?_⟩
        exact ⟨kept, Lm, fd ++ [g], _, _, by rw [List.map_append]; rfl, hc, hl, hk, by omega, by rw [List.length_append, List.length_singleton]; omega, hb⟩
      · have hk2 : ∀ g' ∈ kept ++ [g], PermL n g' := fun g' h => (List.mem_append.mp h).elim (hk g') fun h => by
          rw [List.mem_singleton.mp h]
          exact pg
        refine ⟨_, rfl, s1, (fun z => nomatch z), (fun z => nomatch z), small (by rw [List.length_map]; show kept.length + 1 ≤ _; omega), ?_⟩
        refine ⟨_, [.cl _, .sh ((kept ++ [g]).map encI), .cl (.int (128 : Nat))], _, hC, ⟨rfl, ⟨(fun z => nomatch z), by rw [List.map_append]; rfl⟩, rfl, True.intro⟩, ⟨n, 128, kept ++ [g], rfl, by omega, by decide, by decide, hk2, fun L' hc' hl' => ?_, fun _ => ?_⟩, fun _ h => h⟩
        · refine ⟨_, rfl, iteT ?_⟩
          have sc : SeqAt.shaped (.list (([1, 2, 4, 8, 16, 32, 64, 128] : List Int).map .int)) = true := by decide +kernel
          refine ⟨_, rfl, by show 8 ≤ sizeLine; decide, sh_int _, sc, _, rfl, ?_⟩
          cases cb : (([1, 2, 4, 8, 16, 32, 64, 128] : List Int).map PyData.int).any (fun z => PyData.eqv z (.int ((L'.map encI).length : Nat))) with
          | false =>
            show if ((([1, 2, 4, 8, 16, 32, 64, 128] : List Int).map PyData.int).any (fun z => PyData.eqv z (.int ((L'.map encI).length : Nat)))) = true then _ else _
            rw [cb]
            exact iteF ⟨kept, Lm, fd, _, _, rfl, hc, hl, hk, by omega, by omega, hb⟩
          | true =>
            show if ((([1, 2, 4, 8, 16, 32, 64, 128] : List Int).map PyData.int).any (fun z => PyData.eqv z (.int ((L'.map encI).length : Nat)))) = true then _ else _
            rw [cb]
            refine iteT ?_
            rw [List.length_map] at cb
            refine ⟨small' (by rw [List.length_map]; omega), _, rfl, ?_⟩
            refine ⟨small' (by rw [List.length_map]; omega), _, rfl, ?_⟩
            exact ⟨kept ++ [g], L', fd ++ [g], _, _, by rw [List.map_append, List.map_append]; rfl, hc', hl', hk2, by rw [List.length_append, List.length_singleton]; omega, by rw [List.length_append, List.length_singleton]; omega, pow_list _ hl' cb⟩
        · exact ⟨_, rfl, iteF ⟨_, rfl, iteF ⟨kept, Lm, fd, _, _, rfl, hc, hl, hk, by omega, by omega, hb⟩⟩⟩
    · rintro ρ ⟨kept, Lm, fd, s6, s7, rfl, hc, hl, hk, hkl, hfl, b, hb⟩
      refine ⟨Lm, n, rfl, hn1, fun m hm => ((hc.sub hk).P m hm).len, fun T pT sT => ⟨_, rfl, two, .inl rfl, q _ T ?_⟩⟩
      have cT := Cl.perm hc pT
      exact ⟨hn1, hn, ⟨cT.sub hk, cT.nd⟩, sT, ⟨b, by rw [pT.length_eq]; exact hb⟩, by rw [pT.length_eq]; exact hl⟩
  · have := no [idl n] fun x g => by
      cases g with
      | one => exact .head _
      | step s _ => cases s
    exact absurd (show 128 < 1 from this) (by decide)
end K45

set_option Elab.async false
set_option linter.all false
set_option maxRecDepth 100000
set_option maxHeartbeats 4000000
/-! K45h: the judge of tables; one question. -/
namespace K45
open PySem
open L2
open Ir
open Gp
open Pm
open Kb
def S_istab : Spc := fun as R => ∃ (n : Nat) (C : List Lli), as = [.cl (.tuple (C.map tupT)), .cl (.list (C.map lstT))] ∧ n ≤ 1000 ∧ C.length ≤ 1000 ∧ (∀ L ∈ C, L.length ≤ 1000 ∧ ∀ x ∈ L, PermL n x) ∧ R (.cl, .bool true)
theorem map_at {α : Type} {f : α → D} {C : List α} {k : Nat} {L : α} (h : C[k]? = some L) : (C.map f)[k]? = some (f L) := by
  rw [List.getElem?_map, h]
  rfl
theorem w_istab {Γ : List Spc} (hW : Γ[10]? = some S_whole) : Ans Γ 2 6 ir_law_is_tables S_istab := by
  rintro as R ⟨n, C, rfl, hn, hC, hp, q⟩
  refine ⟨rfl, (fun z h => nomatch h), (fun z h => nomatch h), _, rfl, _, rfl, iteF ?_⟩
  have e1 : (((C.map tupT).length : Nat) : Int) = ((C.map lstT).length : Nat) := by rw [List.length_map, List.length_map]
  refine ⟨_, rfl, ite4 (fun c => absurd e1 c) fun _ => ?_⟩
  refine ⟨by omega, by rw [List.length_map]; omega, (fun z => nomatch z), fun j ρ => ∃ s2 s3 s4 s5, ρ = [.fz (.tuple (C.map tupT)), .fz (.list (C.map lstT)), s2, s3, s4, s5], ⟨.un, .un, .un, .un, rfl⟩, ?_, ?_⟩
  · rintro j d ρ hjd ⟨s2, s3, s4, s5, rfl⟩
    obtain ⟨hj, rfl⟩ := range_at hjd
    rw [List.length_map] at hj
    obtain ⟨L, hL⟩ : ∃ L, C[j]? = some L := ⟨_, List.getElem?_eq_getElem hj⟩
    obtain ⟨hLl, hLp⟩ := hp L (List.mem_of_getElem? hL)
    have atT := at_nat (map_at (f := tupT) hL)
    have atL := at_nat (map_at (f := lstT) hL)
    refine ⟨_, atT, (fun z h => nomatch h), (fun z h => nomatch h), _, rfl, _, rfl, iteF ?_⟩
    refine ⟨_, atT, _, atL, ?_⟩
    refine ⟨_, rfl, ite4 (fun c => absurd rfl c) fun _ => ?_⟩
    refine ⟨_, atL, by omega, by rw [List.length_map]; omega, (fun z => nomatch z), fun i ρ => ∃ s3 s4 s5, ρ = [.fz (.tuple (C.map tupT)), .fz (.list (C.map lstT)), .fz (.int j), s3, s4, s5], ⟨s3, s4, s5, rfl⟩, ?_, ?_⟩
    · rintro i d ρ hid ⟨s3, s4, s5, rfl⟩
      obtain ⟨hi, rfl⟩ := range_at hid
      rw [List.length_map] at hi
      obtain ⟨x, hx⟩ : ∃ x, L[i]? = some x := ⟨_, List.getElem?_eq_getElem hi⟩
      have px := hLp x (List.mem_of_getElem? hx)
      have atX := at_nat (enc_at hx)
      have shx : SeqAt.shaped (encI x) = true := (nc_it (t := true) px hn).shaped (by decide)
      refine ⟨_, atT, _, atX, ?_⟩
      refine ⟨(fun z h => nomatch h), (fun z h => nomatch h), _, rfl, _, rfl, iteF ?_⟩
      refine ⟨_, atL, _, atX, ?_⟩
      refine ⟨_, rfl, ite4 (fun c => absurd rfl c) fun _ => ?_⟩
      refine ⟨(fun z => nomatch z), fun k ρ => ∃ s5, ρ = [.fz (.tuple (C.map tupT)), .fz (.list (C.map lstT)), .fz (.int j), .fz (.int i), .fz (encI x), s5], ⟨s5, rfl⟩, ?_, ?_⟩
      · rintro k d ρ hkd ⟨s5, rfl⟩
        obtain ⟨e, _, rfl⟩ := List.mem_map.mp (List.mem_of_getElem? hkd)
        refine ⟨_, [.cl _], _, hW, ⟨rfl, True.intro⟩, ⟨e, rfl, ?_⟩, fun _ h => h⟩
        exact ⟨(fun z h => nomatch h), (fun z h => nomatch h), _, rfl, _, rfl, iteF ⟨_, rfl⟩⟩
      · rintro ρ ⟨s5, rfl⟩
        refine ⟨_, atL, _, atX, shx, shx, _, rfl, ?_⟩
        have e2 : PyData.eqv (encI x) (encI x) = true := by rw [eqv_enc, decide_eq_true rfl]
        show if (!PyData.eqv (encI x) (encI x)) = true then _ else _
        rw [e2]
        exact iteF ⟨_, _, _, rfl⟩
    · rintro ρ ⟨s3, s4, s5, rfl⟩
      exact ⟨_, _, _, _, rfl⟩
  · rintro ρ ⟨s2, s3, s4, s5, rfl⟩
    exact ⟨.inr rfl, q⟩
theorem Path.small {n : Nat} {T H0 : Lli} (t : Grp (pm n) T) (h0 : Grp (pm n) H0) (le : ∀ y ∈ H0, y ∈ T) (s0 : Srt H0) : ∀ {L : List Lli}, Path T H0 L → ∀ H ∈ L, ∀ y ∈ H, y ∈ T := by
  intro L p
  induction p with
  | start =>
    intro H hH
    rw [List.nil_append] at hH
    rw [List.mem_singleton.mp hH]
    exact le
  | step p hx sH nd e ih =>
    intro K hK
    rcases List.mem_append.mp hK with z | z
    · exact ih K z
    · rw [List.mem_singleton.mp z]
      obtain ⟨C', K', eC, hr⟩ := p.here t h0 le s0
      obtain ⟨e1, e2⟩ := snoc_inj eC
      subst e1 e2
      exact (step_grp t hr.g hr.le hx nd e).2.1
theorem Path.nds {n : Nat} {T H0 : Lli} (t : Grp (pm n) T) (h0 : Grp (pm n) H0) : ∀ {L : List Lli}, Path T H0 L → ∀ H ∈ L, H.Nodup := by
  intro L p
  induction p with
  | start =>
    intro H hH
    rw [List.nil_append] at hH
    rw [List.mem_singleton.mp hH]
    exact h0.nd
  | step p hx sH nd e ih =>
    intro K hK
    rcases List.mem_append.mp hK with z | z
    · exact ih K z
    · rw [List.mem_singleton.mp z]
      exact nd
theorem eqv_ll (a b : Lli) : PyData.eqv (.list (a.map encI)) (.list (b.map encI)) = decide (a = b) := by
  rw [PyData.eqv]
  exact eqv_encs a b
def S_asks : Spc := fun as R => ∃ (n : Nat) (T : Lli) (p : Int) (b : Bool), as = [.cl (.list (T.map encI)), .cl (.int p), .cl (.bool b)] ∧ Tab n T ∧ 0 ≤ p ∧ p < n ∧ R (.cl, .bool true)
theorem w_asks {Γ : List Spc} (h26 : Γ[26]? = some S_handed) (h29 : Γ[29]? = some S_chain) (h30 : Γ[30]? = some S_istab) (h9 : Γ[9]? = some S_hchain) (h25 : Γ[25]? = some S_same) : Ans Γ 3 5 ir_law_asks S_asks := by
  rintro as R ⟨n, T, p, b, rfl, tb, p0, p1, q⟩
  have n64 := tb.n64
  have tl := tb.len
  have hP : ∀ x ∈ T, PermL n x := tb.g.sub.P
  have g0 := stab_grp tb.g p0 p1
  have shT : SeqAt.shaped (.list (T.map encI)) = true := (nc_list hP (show n ≤ 1000 by omega) (Nat.le_refl _)).shaped (by decide)
  have ncW : ∀ t : Bool, Nc 4 (2 ^ 20) (wholeD t T) := fun t => (nc_whole (m := 128) hP (by omega) tl).mono (by decide) (Nat.le_trans (Nat.mul_le_mul_left 128 (show n + 1 ≤ 65 by omega)) (by decide))
  -- from due = .. on
  have rest : ∀ (t : Bool), (∀ Q : Post, Q (.cl, wholeD t T) → Q (.fr, wholeD t T) → S_handed [.cl (.list (T.map encI)), .cl (.bool b)] Q) →
      W Γ (ssDrop 2 ir_law_asks) [.fz (.list (T.map encI)), .fz (.int p), .fz (.bool b), .fz (wholeD t T), .un] (fin R) := fun t hand => by
    refine ⟨_, [.cl _, .cl _], _, h29, ⟨rfl, rfl, True.intro⟩, ⟨n, T, p, rfl, tb, p0, p1, fun C full => ?_⟩, fun _ h => h⟩
    obtain ⟨path, C', rfl⟩ := full
    obtain ⟨C2, H2, e, hr⟩ := path.here tb.g g0 stab_le (stab_srt tb.srt)
    obtain ⟨rfl, rfl⟩ := snoc_inj e
    have cl := hr.cl
    refine ⟨1, rfl, _, last_at C' T lstT, shT, shT, _, rfl, ?_⟩
    have e2 : PyData.eqv (lstT T) (.list (T.map encI)) = true := by
      have z := eqv_ll T T
      rw [decide_eq_true rfl] at z
      exact z
    show if (!PyData.eqv (lstT T) (.list (T.map encI))) = true then _ else _
    rw [e2]
    refine iteF ?_
    refine ⟨_, [.cl (wholeD t T), .cl _], _, h9, ⟨rfl, rfl, True.intro⟩, ⟨t, n, T, p, rfl, tb, p0, p1, fun C full2 => ?_⟩, fun _ h => h⟩
    have eC := Full.uniq tb.g g0 stab_le (stab_srt tb.srt) full2 ⟨path, C', rfl⟩
    subst eC
    refine ⟨_, [.cl _, .cl _], _, h30, ⟨rfl, rfl, True.intro⟩, ⟨n, C' ++ [T], rfl, by omega, by rw [List.length_append, List.length_singleton]; omega, fun L hL => ⟨?_, fun x hx => hP x (path.small tb.g g0 stab_le (stab_srt tb.srt) L hL x hx)⟩, ?_⟩, fun _ h => h⟩
    · exact Nat.le_trans (len_le (path.nds tb.g g0 L hL) (path.small tb.g g0 stab_le (stab_srt tb.srt) L hL)) (by omega)
    · refine ⟨_, rfl, iteT ?_⟩
      refine ⟨_, [.cl _, .cl _], _, h26, ⟨rfl, rfl, True.intro⟩, hand _ ?_ ?_, fun _ h => h⟩
      · exact ⟨_, [.cl (wholeD t T), .cl (wholeD t T)], _, h25, ⟨rfl, rfl, True.intro⟩, ⟨_, rfl, ncW t, by cases t <;> rfl, ⟨.inr rfl, q⟩⟩, fun _ h => h⟩
      · exact ⟨_, [.cl (wholeD t T), .cl (wholeD t T)], _, h25, ⟨rfl, rfl, True.intro⟩, ⟨_, rfl, ncW t, by cases t <;> rfl, ⟨.inr rfl, q⟩⟩, fun _ h => h⟩
  have hand : ∀ Q : Post, (b = true → Q (.fr, wholeD false T)) → (b = false → Q (.cl, wholeD true T)) → S_handed [.cl (.list (T.map encI)), .cl (.bool b)] Q := fun Q h1 h2 => ⟨T, b, rfl, by omega, h1, h2⟩
  refine ⟨rfl, _, [.cl _, .cl _], _, h26, ⟨rfl, rfl, True.intro⟩, hand _ (fun eb => ?_) (fun eb => ?_), fun _ h => h⟩
  · exact rest false fun Q h1 h2 => hand Q (fun _ => h2) fun e => absurd (eb.symm.trans e) (by decide)
  · exact rest true fun Q h1 h2 => hand Q (fun e => absurd (eb.symm.trans e) (by decide)) fun _ => h1
end K45

set_option Elab.async false
set_option linter.all false
set_option maxRecDepth 100000
set_option maxHeartbeats 4000000
/-! K45i: drawn permutations: layers, turns, signed. -/
namespace K45
open PySem
open L2
open Ir
open Gp
open Pm
open Kb
def lf (b : List Int) (k : Int) : Int := 4 * ((k / 4 + getI b 0) % 2) + 2 * ((k / 2 + getI b (1 + k / 4)) % 2) + (k + getI b (3 + k / 2)) % 2
def stp (l : Nat) : Int := getI [1, 2, 4, 1] l
def layS (lv : List Int) (mask : Int) (acc : List Int) (l : Nat) : List Int := if (mask / 2 ^ l) % 2 = 1 then acc ++ (idl (8 / stp l).toNat).map fun k => (acc.length : Int) + getI lv (k * stp l) / stp l else acc
def layF (lv : List Int) (mask : Int) (j : Nat) : List Int := (List.range j).foldl (layS lv mask) []
def lenM (mask : Int) : Nat := (layF (idl 8) mask 4).length
theorem lay_ok : ∀ b ∈ bitsN 7, ∀ m ∈ List.range 15, permB (lenM (m + 1 : Nat)) (layF ((idl 8).map (lf b)) (m + 1 : Nat) 4) = true := by decide +kernel
theorem len_ok : ∀ m ∈ List.range 15, 2 ≤ lenM (m + 1 : Nat) ∧ lenM (m + 1 : Nat) ≤ 22 := by decide +kernel
theorem stp_ok : ∀ l, l < 4 → 0 < stp l ∧ stp l ≤ 4 ∧ (8 / stp l) * stp l ≤ 8 := by decide +kernel
def S_layers : Spc := fun as R => ∃ (c : Int) (m : Nat), as = [.cl (.int c), .cl (.int (m + 1 : Nat))] ∧ m < 15 ∧ ∀ p, PermL (lenM (m + 1 : Nat)) p → R (.cl, encI p)
theorem idl_snoc (j : Nat) (f : Int → Int) : ((idl (j + 1)).map f).map PyData.int = ((idl j).map f).map PyData.int ++ [.int (f j)] := by
  unfold idl
  rw [List.range_succ]
  simp
theorem w_layers {Γ : List Spc} (hd : Γ[12]? = some S_digits) : Ans Γ 2 12 ir_law_layers S_layers := by
  rintro as R ⟨c, mk, rfl, hm, q⟩
  refine ⟨rfl, _, rfl, by show 7 ≤ sizeLine; decide, ?_⟩
  refine ⟨_, [.cl _, .sh (b7.map .int)], _, hd, ⟨rfl, ⟨(fun z => nomatch z), rfl⟩, True.intro⟩, ⟨c, b7, rfl, by decide, b7_ok, fun ds hd => ?_⟩, fun _ h => h⟩
  have dl : ds.length = 7 := hd.1
  have bt : ∀ i : Int, 0 ≤ i → i < 7 → atI (ds.map PyData.int) i = some (.int (getI ds i)) := fun i h0 h1 => at_enc h0 (by omega)
  refine ⟨_, rfl, s0, by decide, by decide, (fun z => nomatch z), fun j ρ => ∃ (s4 s7 s8 : Sl), ρ = [.fz (.int c), .fz (.int (mk + 1 : Nat)), .fz (.list (ds.map .int)), .ol (((idl j).map (lf ds)).map .int), s4, .un, .un, s7, s8, .un, .un, .un], ⟨.un, .un, .un, rfl⟩, ?_, ?_⟩
  · rintro j d ρ hjd ⟨s4, s7, s8, rfl⟩
    obtain ⟨hj, rfl⟩ := range_at (m := 8) hjd
    refine ⟨div_ok (by decide) (by decide), _, bt 0 (by decide) (by decide), by decide, ?_⟩
    refine ⟨div_ok (by decide) (by decide), div_ok (by decide) (by decide), _, bt (1 + (j : Int) / 4) (by omega) (by omega), by decide, ?_⟩
    refine ⟨small' (by rw [List.length_map, List.length_map, idl_len]; omega), mulL (by decide) (by decide), mulL (by decide) (by decide), div_ok (by decide) (by decide), _, bt (3 + (j : Int) / 2) (by omega) (by omega), by decide, _, rfl, ?_⟩
    have e := idl_snoc j (lf ds)
    exact ⟨_, _, _, by rw [e]; rfl⟩
  rintro ρ ⟨s4, s7, s8, rfl⟩
  have e8 : ((List.range (8 : Int).toNat).map fun k : Nat => PyData.int (k : Int)).length = 8 := by rw [List.length_map, List.length_range]; rfl
  rw [e8]
  generalize hlv : (idl 8).map (lf ds) = lv
  have lvl : lv.length = 8 := by rw [← hlv, List.length_map, idl_len]
  refine ⟨_, rfl, s0, by decide, by decide, (fun z => nomatch z), fun l ρ => ∃ (s4 s6 s7 s8 s9 s10 s11 : Sl), ρ = [.fz (.int c), .fz (.int (mk + 1 : Nat)), .fz (.list (ds.map .int)), .ol (lv.map .int), s4, .ol ((layF lv (mk + 1 : Nat) l).map .int), s6, s7, s8, s9, s10, s11] ∧ (layF lv (mk + 1 : Nat) l).length ≤ 8 * l, ⟨s4, .un, s7, s8, .un, .un, .un, rfl, Nat.le_refl _⟩, ?_, ?_⟩
  · rintro l d ρ hld ⟨s4, s6, s7, s8, s9, s10, s11, rfl, hl⟩
    obtain ⟨hl4, rfl⟩ := range_at (m := 4) hld
    have es : layF lv (mk + 1 : Nat) (l + 1) = layS lv (mk + 1 : Nat) (layF lv (mk + 1 : Nat) l) l := by
      unfold layF
      rw [List.range_succ, List.foldl_append]
      rfl
    generalize layF lv (mk + 1 : Nat) l = acc at hl es ⊢
    obtain ⟨st0, st1, st2⟩ := stp_ok l hl4
    have eT : ((mk + 1 : Nat) : Int) / 2 ^ ((l : Int).toNat) = ((mk + 1 : Nat) : Int) / 2 ^ l := by rw [Int.toNat_natCast]
    refine ⟨by omega, by decide, _, rfl, ?_⟩
    rw [eT]
    refine ite3 (fun h => ?_) (fun h => ?_)
    · have e2 : layS lv (mk + 1 : Nat) acc l = acc ++ (idl (8 / stp l).toNat).map fun k => (acc.length : Int) + getI lv (k * stp l) / stp l := if_pos h
      have atS : atI (([1, 2, 4, 1] : List Int).map PyData.int) (l : Int) = some (.int (stp l)) := at_enc (by omega) (by show (l : Int) < 4; omega)
      refine ⟨_, rfl, by show 4 ≤ sizeLine; decide, _, atS, ?_⟩
      have q0 : 0 ≤ 8 / stp l := Int.ediv_nonneg (by decide) (by omega)
      have q8 : 8 / stp l ≤ 8 := Int.ediv_le_self _ (by decide)
      refine ⟨div_ok st0 (by omega), by omega, by omega, (fun z => nomatch z), fun i ρ => ∃ s11, ρ = [.fz (.int c), .fz (.int (mk + 1 : Nat)), .fz (.list (ds.map .int)), .ol (lv.map .int), s4, .ol ((acc ++ (idl i).map fun k => (acc.length : Int) + getI lv (k * stp l) / stp l).map .int), .fz (.int l), s7, s8, .fz (.int (stp l)), .fz (.int acc.length), s11], ⟨s11, ?_⟩, ?_, ?_⟩
      · have e : acc ++ (idl 0).map (fun k => (acc.length : Int) + getI lv (k * stp l) / stp l) = acc := by
          show acc ++ [] = acc
          rw [List.append_nil]
        rw [e]
        show [Sl.fz (.int c), .fz (.int (mk + 1 : Nat)), .fz (.list (ds.map .int)), .ol (lv.map .int), s4, .ol (acc.map .int), .fz (.int l), s7, s8, .fz (.int (stp l)), .fz (.int ((acc.map PyData.int).length : Nat)), s11] = _
        rw [List.length_map]
      · rintro i d ρ hid ⟨s11, rfl⟩
        have hi : i < (8 / stp l).toNat ∧ d = .int i := by
          have z := hid
          rw [show (8 / stp l) = (((8 / stp l).toNat : Nat) : Int) by omega] at z
          exact range_at z
        obtain ⟨hi, rfl⟩ := hi
        have bnd : 0 ≤ (i : Int) * stp l ∧ (i : Int) * stp l < lv.length := by
          refine ⟨Int.mul_nonneg (by omega) (by omega), ?_⟩
          have : ((i : Int) + 1) * stp l ≤ (8 / stp l) * stp l := Int.mul_le_mul_of_nonneg_right (by omega) (by omega)
          rw [Int.add_mul, Int.one_mul] at this
          omega
        refine ⟨small' (by rw [List.length_map, List.length_append, List.length_map, idl_len]; omega), mulR (by omega) (by omega), _, at_enc bnd.1 bnd.2, div_ok st0 (by omega), _, rfl, ?_⟩
        have e := idl_snoc i fun k => (acc.length : Int) + getI lv (k * stp l) / stp l
        have e3 : (acc ++ (idl (i + 1)).map fun k => (acc.length : Int) + getI lv (k * stp l) / stp l).map PyData.int = (acc ++ (idl i).map fun k => (acc.length : Int) + getI lv (k * stp l) / stp l).map PyData.int ++ [.int ((acc.length : Int) + getI lv (i * stp l) / stp l)] := by
          rw [List.map_append, e, ← List.append_assoc, ← List.map_append]
        exact ⟨_, by rw [e3]; rfl⟩
      · rintro ρ ⟨s11, rfl⟩
        have el : ((List.range (8 / stp l).toNat).map fun k : Nat => PyData.int (k : Int)).length = (8 / stp l).toNat := by rw [List.length_map, List.length_range]
        rw [el]
        exact ⟨_, _, _, _, _, _, _, by rw [es, e2], by rw [es, e2, List.length_append, List.length_map, idl_len]; omega⟩
    · have e2 : layS lv (mk + 1 : Nat) acc l = acc := if_neg h
      exact ⟨_, _, _, _, _, _, _, by rw [es, e2]; rfl, by rw [es, e2]; omega⟩
  · rintro ρ ⟨s4, s6, s7, s8, s9, s10, s11, rfl, hl⟩
    have e4 : ((List.range (4 : Int).toNat).map fun k : Nat => PyData.int (k : Int)).length = 4 := by rw [List.length_map, List.length_range]; rfl
    rw [e4]
    refine ⟨.inr rfl, q _ (permB_ok ?_)⟩
    rw [← hlv]
    exact lay_ok ds (dg_b7 hd) mk (List.mem_range.mpr hm)
end K45

set_option Elab.async false
set_option linter.all false
set_option maxRecDepth 100000
set_option maxHeartbeats 4000000
/-! K45j: drawn permutations: turns, signed, renumbered. -/
namespace K45
open PySem
open L2
open Ir
open Gp
open Pm
open Kb
theorem emod_inj2 {b x y s : Int} (hs : s = 1 ∨ s = -1) (h0 : 0 ≤ x) (h1 : x < b) (h2 : 0 ≤ y) (h3 : y < b) (t : Int) (e : (s * x + t) % b = (s * y + t) % b) : x = y := by
  rcases hs with rfl | rfl
  · rw [Int.one_mul, Int.one_mul] at e
    exact emod_inj h0 h1 h2 h3 t e
  · have z := Int.dvd_of_emod_eq_zero (Int.emod_eq_emod_iff_emod_sub_eq_zero.mp e)
    have z2 : b ∣ (y + 0) - (x + 0) := by
      have e3 : -1 * x + t - (-1 * y + t) = (y + 0) - (x + 0) := by omega
      rwa [e3] at z
    have z3 := Int.emod_eq_emod_iff_emod_sub_eq_zero.mpr (Int.emod_eq_zero_of_dvd z2)
    exact (emod_inj h2 h3 h0 h1 0 z3).symm
def turn2 (m : Nat) (b s t : Int) (i : Nat) : List Int := (idl i).map fun p => (m : Int) + (s * p + t) % b
theorem turn2_ok {m : Nat} {l : List Int} {b s t : Int} (hs : s = 1 ∨ s = -1) (h : PermL m l) (hb : 0 < b) : PermL (m + b.toNat) (l ++ turn2 m b s t b.toNat) := by
  have eb : ((b.toNat : Nat) : Int) = b := Int.toNat_of_nonneg (by omega)
  refine ⟨by unfold turn2; rw [List.length_append, List.length_map, idl_len, h.len], List.nodup_append.mpr ⟨h.nd, nodup_map (fun x hx y hy e => ?_) (PermL.id _).nd, fun x hx y hy e => ?_⟩, fun x hx => ?_⟩
  · have rx := (PermL.id _).rg x hx
    have ry := (PermL.id _).rg y hy
    rw [eb] at rx ry
    have e : (m : Int) + (s * x + t) % b = (m : Int) + (s * y + t) % b := e
    exact emod_inj2 hs rx.1 rx.2 ry.1 ry.2 t (by omega)
  · obtain ⟨z, _, rfl⟩ := List.mem_map.mp hy
    have := h.rg x hx
    have := Int.emod_nonneg (s * z + t) (show b ≠ 0 by omega)
    omega
  · rcases List.mem_append.mp hx with hx | hx
    · have := h.rg x hx
      omega
    · obtain ⟨z, _, rfl⟩ := List.mem_map.mp hx
      have := Int.emod_nonneg (s * z + t) (show b ≠ 0 by omega)
      have := Int.emod_lt_of_pos (s * z + t) hb
      omega
theorem sign_of {b t : Int} (h0 : 0 < b) (h1 : 0 ≤ t) (h2 : t < 2 * b) : 1 - 2 * (t / b) = 1 ∨ 1 - 2 * (t / b) = -1 := by
  by_cases c : t < b
  · left
    rw [Int.ediv_eq_zero_of_lt h1 c]
    decide
  · right
    have e : t / b = 1 := by
      have z : t = (t - b) + b * 1 := by omega
      rw [z, Int.add_mul_ediv_left _ _ (by omega), Int.ediv_eq_zero_of_lt (by omega) (by omega)]
      decide
    rw [e]
    decide
def S_turns : Spc := fun as R => ∃ (c : Int) (bl : List Int), as = [.cl (.int c), .cl (.list (bl.map .int))] ∧ bl.length ≤ 100 ∧ (∀ b ∈ bl, 0 < b ∧ b ≤ 1000) ∧ ∀ p, PermL (natSum bl) p → R (.cl, encI p)
theorem w_turns {Γ : List Spc} (hd : Γ[12]? = some S_digits) : Ans Γ 2 9 ir_law_turns S_turns := by
  rintro as R ⟨c, bl, rfl, hl, hb, q⟩
  refine ⟨rfl, ?_⟩
  refine lc_allE (fun d => .int (2 * unI d)) ((bl.map fun b => 2 * b).map .int) (by rw [List.nil_append, List.map_map, List.map_map]; rfl) (fun d P p => p) (small (by rw [List.length_map]; show 0 + bl.length ≤ _; omega)) (fun d hd P hP => ?_) ?_
  · obtain ⟨b, hb', rfl⟩ := List.mem_map.mp hd
    exact ⟨mulL (by decide) (by decide), hP _ rfl⟩
  refine ⟨_, [.cl _, .sh ((bl.map fun b => 2 * b).map .int)], _, hd, ⟨rfl, ⟨(fun z => nomatch z), rfl⟩, True.intro⟩, ⟨c, bl.map fun b => 2 * b, rfl, by rw [List.length_map]; omega, fun s hs => ?_, fun ds hd => ?_⟩, fun _ h => h⟩
  · obtain ⟨b, hb', rfl⟩ := List.mem_map.mp hs
    have := hb b hb'
    omega
  have dl := hd.1
  rw [List.length_map] at dl
  refine ⟨_, rfl, s0, by omega, by rw [List.length_map]; omega, (fun z => nomatch z), fun j ρ => ∃ (l : List Int) (s4 s5 s6 s7 : Sl), ρ = [.fz (.int c), .fz (.list (bl.map .int)), .fz (.list (ds.map .int)), .ol (l.map .int), s4, s5, s6, s7, .un] ∧ PermL (natSum (bl.take j)) l, ⟨[], .un, .un, .un, .un, rfl, PermL.id 0⟩, ?_, ?_⟩
  · rintro j d ρ hjd ⟨l, s4, s5, s6, s7, rfl, hp⟩
    obtain ⟨hj, rfl⟩ := range_at hjd
    rw [List.length_map] at hj
    obtain ⟨b, hbj⟩ : ∃ b, bl[j]? = some b := ⟨_, List.getElem?_eq_getElem hj⟩
    obtain ⟨t, htj⟩ : ∃ t, ds[j]? = some t := ⟨_, List.getElem?_eq_getElem (by omega)⟩
    obtain ⟨b0, b1⟩ := hb b (List.mem_of_getElem? hbj)
    have tb := hd.2 j (2 * b) t (by rw [List.getElem?_map, hbj]; rfl) htj
    have bAt := at_nat (ints_get hbj)
    have tAt := at_nat (ints_get htj)
    have sl := natSum_le (bl := bl.take j) fun b h => hb b (List.mem_of_mem_take h)
    rw [List.length_take] at sl
    have ll : l.length = natSum (bl.take j) := hp.len
    have sg := sign_of b0 tb.1 tb.2
    refine ⟨_, tAt, _, bAt, div_ok b0 (by omega), mulL (by decide) (by decide), ?_⟩
    refine ⟨_, bAt, by omega, by omega, (fun z => nomatch z), fun i ρ => ∃ (s7 : Sl), ρ = [.fz (.int c), .fz (.list (bl.map .int)), .fz (.list (ds.map .int)), .ol ((l ++ turn2 l.length b (1 - 2 * (t / b)) t i).map .int), .fz (.int j), .fz (.int l.length), .fz (.int (1 - 2 * (t / b))), s7, .un], ⟨s7, ?_⟩, ?_, ?_⟩
    · have e : l ++ turn2 l.length b (1 - 2 * (t / b)) t 0 = l := by
        show l ++ [] = l
        rw [List.append_nil]
      rw [e]
      show [Sl.fz (.int c), .fz (.list (bl.map .int)), .fz (.list (ds.map .int)), .ol (l.map .int), .fz (.int j), .fz (.int ((l.map PyData.int).length : Nat)), .fz (.int (1 - 2 * (t / b))), s7, .un] = _
      rw [List.length_map]
    · rintro i d ρ hid ⟨s7, rfl⟩
      have hi : i < b.toNat ∧ d = .int i := by
        have z := hid
        rw [show b = ((b.toNat : Nat) : Int) by omega] at z
        exact range_at z
      obtain ⟨hi, rfl⟩ := hi
      have tl : (turn2 l.length b (1 - 2 * (t / b)) t i).length = i := by
        unfold turn2
        rw [List.length_map, idl_len]
      refine ⟨small' (by rw [List.length_map, List.length_append, tl]; omega), mulR (by omega) (by omega), _, tAt, _, bAt, b0, _, rfl, ?_⟩
      have e : (l ++ turn2 l.length b (1 - 2 * (t / b)) t (i + 1)).map PyData.int = (l ++ turn2 l.length b (1 - 2 * (t / b)) t i).map PyData.int ++ [.int ((l.length : Int) + ((1 - 2 * (t / b)) * (i : Int) + t) % b)] := by
        unfold turn2 idl
        rw [List.range_succ]
        simp
      exact ⟨_, by rw [e]; rfl⟩
    · rintro ρ ⟨s7, rfl⟩
      have e : ((List.range b.toNat).map fun k : Nat => PyData.int (k : Int)).length = b.toNat := by rw [List.length_map, List.length_range]
      refine ⟨l ++ turn2 l.length b (1 - 2 * (t / b)) t ((List.range b.toNat).map fun k : Nat => PyData.int (k : Int)).length, .fz (.int j), .fz (.int l.length), .fz (.int (1 - 2 * (t / b))), s7, rfl, ?_⟩
      rw [e, natSum_take hbj, ← ll]
      rw [← ll] at hp
      exact turn2_ok sg hp b0
  · rintro ρ ⟨l, s4, s5, s6, s7, rfl, hp⟩
    rw [List.length_map, List.length_range, Int.toNat_natCast, List.length_map, List.take_length] at hp
    exact ⟨.inr rfl, q l hp⟩
/-! six bits -/
def b6 : List Int := [2, 2, 2, 2, 2, 2]
theorem b6_ok : ∀ s ∈ b6, 0 < s ∧ s < 2 ^ 20 := by decide
theorem dg_b6 {ds : List Int} (h : Dg b6 ds) : ds ∈ bitsN 6 := by
  have l := h.1
  have m := mem_bits ds fun d hd => by
    obtain ⟨i, hi, e⟩ := List.mem_iff_getElem.mp hd
    have lt : i < 6 := by
      have : b6.length = 6 := rfl
      omega
    have e2 : b6[i]? = some 2 := by
      have all : ∀ i, i < 6 → b6[i]? = some 2 := by decide
      exact all i lt
    obtain ⟨h0, h1⟩ := h.2 i 2 d e2 (by rw [List.getElem?_eq_getElem hi, e])
    omega
  rw [l] at m
  exact m
def sg1 (b : List Int) (k : Int) : Int := (k / 2 + getI b (2 * (k / 4))) % 2
def sg2 (b : List Int) (k : Int) : Int := (k + getI b (2 * (k / 4) + 1)) % 2
def sgn (b : List Int) (k : Int) : Int := if getI b 4 = 1 then 4 * ((k / 4 + getI b 5) % 2) + 2 * sg2 b k + sg1 b k else 4 * ((k / 4 + getI b 5) % 2) + 2 * sg1 b k + sg2 b k
theorem sgn_ok : ∀ b ∈ bitsN 6, permB 8 ((idl 8).map (sgn b)) = true := by decide +kernel
def S_signed : Spc := fun as R => ∃ c : Int, as = [.cl (.int c)] ∧ ∀ p, PermL 8 p → R (.cl, encI p)
theorem w_signed {Γ : List Spc} (hd : Γ[12]? = some S_digits) : Ans Γ 1 8 ir_law_signed S_signed := by
  rintro as R ⟨c, rfl, q⟩
  refine ⟨rfl, _, rfl, by show 6 ≤ sizeLine; decide, ?_⟩
  refine ⟨_, [.cl _, .sh (b6.map .int)], _, hd, ⟨rfl, ⟨(fun z => nomatch z), rfl⟩, True.intro⟩, ⟨c, b6, rfl, by decide, b6_ok, fun ds hd => ?_⟩, fun _ h => h⟩
  have dl : ds.length = 6 := hd.1
  have bt : ∀ i : Int, 0 ≤ i → i < 6 → atI (ds.map PyData.int) i = some (.int (getI ds i)) := fun i h0 h1 => at_enc h0 (by omega)
  refine ⟨_, rfl, s0, by decide, by decide, (fun z => nomatch z), fun j ρ => ∃ (s3 s4 s5 s6 s7 : Sl), ρ = [.fz (.int c), .fz (.list (ds.map .int)), .ol (((idl j).map (sgn ds)).map .int), s3, s4, s5, s6, s7], ⟨.un, .un, .un, .un, .un, rfl⟩, ?_, ?_⟩
  · rintro j d ρ hjd ⟨s3, s4, s5, s6, s7, rfl⟩
    obtain ⟨hj, rfl⟩ := range_at (m := 8) hjd
    have e : ((idl (j + 1)).map (sgn ds)).map PyData.int = ((idl j).map (sgn ds)).map PyData.int ++ [.int (sgn ds j)] := by
      unfold idl
      rw [List.range_succ]
      simp
    refine ⟨div_ok (by decide) (by decide), ?_⟩
    refine ⟨div_ok (by decide) (by decide), mulL (by decide) (by decide), _, bt (2 * ((j : Int) / 4)) (by omega) (by omega), by decide, ?_⟩
    refine ⟨mulL (by decide) (by decide), _, bt (2 * ((j : Int) / 4) + 1) (by omega) (by omega), by decide, ?_⟩
    refine ⟨_, bt 4 (by decide) (by decide), _, rfl, ite3 (fun h => ?_) (fun h => ?_)⟩
    · refine ⟨small' (by rw [List.length_map, List.length_map, idl_len]; omega), _, bt 5 (by decide) (by decide), by decide, mulL (by decide) (by decide), mulL (by decide) (by decide), _, rfl, ?_⟩
      have e2 : sgn ds j = 4 * (((j : Int) / 4 + getI ds 5) % 2) + 2 * sg2 ds j + sg1 ds j := if_pos h
      rw [e2] at e
      exact ⟨_, _, _, _, _, by rw [e]; rfl⟩
    · refine ⟨small' (by rw [List.length_map, List.length_map, idl_len]; omega), _, bt 5 (by decide) (by decide), by decide, mulL (by decide) (by decide), mulL (by decide) (by decide), _, rfl, ?_⟩
      have e2 : sgn ds j = 4 * (((j : Int) / 4 + getI ds 5) % 2) + 2 * sg1 ds j + sg2 ds j := if_neg h
      rw [e2] at e
      exact ⟨_, _, _, _, _, by rw [e]; rfl⟩
  · rintro ρ ⟨s3, s4, s5, s6, s7, rfl⟩
    exact ⟨.inr rfl, q _ (permB_ok (sgn_ok ds (dg_b6 hd)))⟩
/-! other names; what is not moved stays -/
def ext (one : List Int) (n : Nat) : List Int := one ++ ((List.range (n - one.length)).map fun k : Nat => ((one.length + k : Nat) : Int))
theorem ext_ok {m n : Nat} {one : List Int} (h : PermL m one) (hm : m ≤ n) : PermL n (ext one n) := by
  have l := h.len
  unfold ext
  refine ⟨by rw [List.length_append, List.length_map, List.length_range]; omega, List.nodup_append.mpr ⟨h.nd, nodup_map (fun x _ y _ e => by omega) List.nodup_range, fun x hx y hy e => ?_⟩, fun x hx => ?_⟩
  · obtain ⟨k, _, rfl⟩ := List.mem_map.mp hy
    have := h.rg x hx
    omega
  · rcases List.mem_append.mp hx with hx | hx
    · have := h.rg x hx
      omega
    · obtain ⟨k, hk, rfl⟩ := List.mem_map.mp hx
      have := List.mem_range.mp hk
      omega
theorem ext_get {m n : Nat} {one : List Int} (h : PermL m one) (hm : m ≤ n) {k : Nat} (hk : k < n) : getI (ext one n) k = if k < one.length then getI one k else k := by
  have l := h.len
  unfold ext getI
  rw [Int.toNat_natCast]
  by_cases c : k < one.length
  · rw [if_pos c, List.getElem?_append_left c]
  · rw [if_neg c, List.getElem?_append_right (by omega), List.getElem?_map, List.getElem?_range (by omega)]
    show ((one.length + (k - one.length) : Nat) : Int) = k
    omega
def S_renum2 : Spc := fun as R => ∃ (m n : Nat) (one names : List Int), as = [.cl (encI one), .cl (encI names)] ∧ m ≤ n ∧ n ≤ 1000 ∧ PermL m one ∧ PermL n names ∧ ∀ p, PermL n p → R (.cl, encI p)
theorem w_renum {Γ : List Spc} : Ans Γ 2 5 ir_law_renumbered S_renum2 := by
  rintro as R ⟨m, n, one, names, rfl, hmn, hn, h1, h2, q⟩
  have l1 := h1.len
  have l2 := h2.len
  have h3 := ext_ok h1 hmn
  have l3 := h3.len
  refine ⟨rfl, ?_⟩
  refine lc_allE (fun d => d) (names.map .int) (by rw [List.nil_append]; exact map_same) (fun d P p => p) (small (by rw [List.length_map]; show 0 + names.length ≤ _; omega)) (fun d hd P hP => ?_) ?_
  · obtain ⟨e, _, rfl⟩ := List.mem_map.mp hd
    exact hP _ rfl
  · refine ⟨by omega, by rw [List.length_map]; omega, (fun z => nomatch z), fun j ρ => ∃ (fl : List Int) (s3 s4 : Sl), ρ = [.fz (encI one), .fz (encI names), .ol (fl.map .int), s3, s4] ∧ fl.length = n ∧ ∀ i : Nat, i < j → i < n → getI fl (getI names i) = getI names (getI (ext one n) i), ⟨names, .un, .un, rfl, l2, fun i h => absurd h (Nat.not_lt_zero i)⟩, ?_, ?_⟩
    · rintro j d ρ hjd ⟨fl, s3, s4, rfl, fl1, hf⟩
      obtain ⟨hj, rfl⟩ := range_at hjd
      rw [List.length_map] at hj
      have xj := h3.rg _ (getI_mem (l := ext one n) (i := j) (by omega) (by omega))
      have nj := h2.rg _ (getI_mem (l := names) (i := j) (by omega) (by omega))
      have eg := ext_get h1 hmn (k := j) (by omega)
      -- the store, the image being known
      have fin' : ∀ (N : En) (s4' : Int), s4' = getI (ext one n) j → (∀ fl' : List Int, fl'.length = n → (∀ i : Nat, i < j + 1 → i < n → getI fl' (getI names i) = getI names (getI (ext one n) i)) → N.nx [.fz (encI one), .fz (encI names), .ol (fl'.map .int), .fz (.int j), .fz (.int s4')]) →
          W Γ (.cons (.setx 2 (.ix (.var 1) (.var 3)) (.ix (.var 1) (.var 4))) .nil) [.fz (encI one), .fz (encI names), .ol (fl.map .int), .fz (.int j), .fz (.int s4')] N := fun N s4' es nx => by
        subst es
        refine ⟨_, at_enc xj.1 (by omega), _, rfl, _, at_enc (by omega) (by omega), getI names j, (getI names j).toNat, rfl, ?_, ?_⟩
        · unfold ixN
          rw [if_pos nj.1, if_pos (by rw [List.length_map]; omega)]
        · have e : (fl.map PyData.int).set (getI names j).toNat (.int (getI names (getI (ext one n) j))) = (fl.set (getI names j).toNat (getI names (getI (ext one n) j))).map .int := (List.map_set ..).symm
          have z := nx (fl.set (getI names j).toNat (getI names (getI (ext one n) j))) (by rw [List.length_set]; exact fl1) fun i hi hin => ?_
          · rw [← e] at z
            exact z
          · have ni := h2.rg _ (getI_mem (l := names) (i := i) (by omega) (by omega))
            rw [getI_set ni.1 (by omega)]
            by_cases c : i = j
            · subst c
              rw [if_pos (by omega)]
            · rw [if_neg (fun e => c (by
                have z := getI_inj h2.nd (i := i) (j := j) (by omega) (by omega) (by omega) (by omega) (by omega)
                omega))]
              exact hf i (by omega) hin
      refine ⟨_, rfl, ite3 (fun c => ?_) (fun c => ?_)⟩
      · have c : j < one.length := by
          have c : (j : Int) < ((one.map PyData.int).length : Nat) := c
          rw [List.length_map] at c
          omega
        rw [if_pos c] at eg
        refine ⟨_, at_enc (by omega) (by omega), ?_⟩
        exact fin' _ _ eg.symm fun fl' a b => ⟨fl', _, _, rfl, a, b⟩
      · have c : ¬ j < one.length := by
          have c : ¬ (j : Int) < ((one.map PyData.int).length : Nat) := c
          rw [List.length_map] at c
          omega
        rw [if_neg c] at eg
        exact fin' _ _ eg.symm fun fl' a b => ⟨fl', _, _, rfl, a, b⟩
    · rintro ρ ⟨fl, s3, s4, rfl, fl1, hf⟩
      rw [List.length_map, List.length_range, Int.toNat_natCast, List.length_map, l2] at hf
      have at' : ∀ p : Nat, p < n → ∃ i : Nat, i < n ∧ getI names i = p ∧ getI fl p = getI names (getI (ext one n) i) := fun p hp => by
        have m := perm_all h2 (e := p) (by omega) (by omega)
        obtain ⟨i, hi, e⟩ := List.mem_iff_getElem.mp m
        have e2 : getI names i = p := by rw [getI_at hi, e]
        exact ⟨i, by omega, e2, by rw [← e2]; exact hf i (by omega) (by omega)⟩
      refine ⟨.inr rfl, q fl ⟨fl1, nodup_of fun i j hi hj e => ?_, fun x hx => ?_⟩⟩
      · obtain ⟨a, ha, a1, a2⟩ := at' i (by omega)
        obtain ⟨b, hb, b1, b2⟩ := at' j (by omega)
        rw [getI_at hi] at a2
        rw [getI_at hj] at b2
        have oa := h3.rg _ (getI_mem (l := ext one n) (i := a) (by omega) (by omega))
        have ob := h3.rg _ (getI_mem (l := ext one n) (i := b) (by omega) (by omega))
        have z1 := getI_inj h2.nd oa.1 (by omega) ob.1 (by omega) (a2.symm.trans (e.trans b2))
        have z2 := getI_inj h3.nd (i := a) (j := b) (by omega) (by omega) (by omega) (by omega) z1
        have z3 : a = b := by omega
        subst z3
        omega
      · obtain ⟨p, hp, e⟩ := List.mem_iff_getElem.mp hx
        obtain ⟨a, ha, a1, a2⟩ := at' p (by omega)
        rw [getI_at hp, e] at a2
        have oa := h3.rg _ (getI_mem (l := ext one n) (i := a) (by omega) (by omega))
        rw [a2]
        exact h2.rg _ (getI_mem oa.1 (by omega))
end K45

set_option Elab.async false
set_option linter.all false
set_option maxRecDepth 100000
set_option maxHeartbeats 4000000
/-! K45k: a group upon itself. -/
namespace K45
open PySem
open L2
open Ir
open Gp
open Pm
open Kb
theorem lc_nd {C : D → (Bool → Prop) → Prop} {F : D → Post → Prop} {Q : Post} {Pr : D → Prop} (hC : ∀ d P, P true → C d P) : ∀ (ds acc : List D), acc.length + ds.length ≤ 1000000 → (∀ d ∈ ds, ∀ P : Post, (∀ x, Pr x → P (.cl, x)) → F d P) →
    (∀ L : List D, (∀ x ∈ L, Pr x) → L.length = ds.length → Q (.fr, .list (acc ++ L))) → lcW C F Q ds acc
  | [], acc, _, _, q => by
    have z := q [] (fun x h => nomatch h) rfl
    rw [List.append_nil] at z
    exact z
  | d :: ds, acc, hl, hF, q => by
    rw [List.length_cons] at hl
    refine ⟨small' (by omega), hC _ _ ?_⟩
    rw [if_pos rfl]
    refine hF d (.head _) _ fun x px => ⟨x, rfl, ?_⟩
    refine lc_nd hC ds (acc ++ [x]) (by rw [List.length_append, List.length_singleton]; omega) (fun d' h => hF d' (.tail _ h)) fun L h1 h2 => ?_
    have z := q (x :: L) (fun y hy => by
      cases hy with
      | head => exact px
      | tail _ hy => exact h1 y hy) (by rw [List.length_cons, List.length_cons, h2])
    rw [List.append_assoc]
    exact z
def posOf : Lli → List Int → Nat
  | [], _ => 0
  | x :: r, y => if x = y then 0 else posOf r y + 1
theorem posOf_at : ∀ {U : Lli} {y : List Int}, y ∈ U → U[posOf U y]? = some y
  | x :: r, y, h => by
    unfold posOf
    by_cases c : x = y
    · rw [if_pos c, c]
      rfl
    · rw [if_neg c]
      cases h with
      | head => exact absurd rfl c
      | tail _ h => exact posOf_at (U := r) h
theorem look_app {kvs : List (D × D)} {k v : D} {e : D × D} (h : lookD kvs k = some v) : lookD (kvs ++ [e]) k = some v := by
  induction kvs with
  | nil =>
    rw [look_nil] at h
    cases h
  | cons f kvs ih =>
    obtain ⟨j, w⟩ := f
    by_cases c : j = k
    · subst c
      rw [look_pos] at h
      rw [List.cons_append, look_pos, h]
    · rw [look_neg c] at h
      rw [List.cons_append, look_neg c]
      exact ih h
theorem look_last {kvs : List (D × D)} {k v : D} (h : k ∉ kvs.map (·.1)) : lookD (kvs ++ [(k, v)]) k = some v := by
  induction kvs with
  | nil => exact look_pos
  | cons f kvs ih =>
    obtain ⟨j, w⟩ := f
    have c : j ≠ k := fun e => h (by rw [e]; exact .head _)
    rw [List.cons_append, look_neg c]
    exact ih fun m => h (.tail _ m)
structure Idx (kvs : List (D × D)) (U : Lli) (j : Nat) : Prop where
  keys : kvs.map (·.1) = (U.take j).map encI
  at' : ∀ (i : Nat) (x : List Int), i < j → U[i]? = some x → lookD kvs (encI x) = some (.int i)
theorem Idx.step {kvs : List (D × D)} {U : Lli} {j : Nat} {x : List Int} (h : Idx kvs U j) (nd : U.Nodup) (hx : U[j]? = some x) : Idx (putD kvs (encI x) (.int j)) U (j + 1) := by
  have lt := (List.getElem?_eq_some_iff.mp hx).1
  have fresh : x ∉ U.take j := fun m => by
    obtain ⟨i, hi, e⟩ := List.mem_iff_getElem.mp m
    rw [List.length_take] at hi
    rw [List.getElem_take] at e
    have z := (List.getElem?_inj (l := U) (i := i) (j := j) (by omega) nd).mp (by rw [hx, List.getElem?_eq_getElem (by omega), e])
    omega
  have nk : encI x ∉ kvs.map (·.1) := by
    rw [h.keys]
    exact fun m => fresh (mem_enc.mp m)
  have e : putD kvs (encI x) (.int j) = kvs ++ [(encI x, .int j)] := put_new fun ⟨e, he, z⟩ => nk (z ▸ List.mem_map_of_mem he)
  rw [e]
  refine ⟨by rw [List.map_append, h.keys, List.take_add_one, hx, List.map_append]; rfl, fun i y hi hy => ?_⟩
  by_cases c : i = j
  · subst c
    rw [hx] at hy
    cases hy
    exact look_last nk
  · exact look_app (h.at' i y (by omega) hy)
def regP (U : Lli) (g : List Int) : List Int := U.map fun x => ((posOf U (mul g x) : Nat) : Int)
theorem regP_ok {n : Nat} {U : Lli} {g : List Int} (u : Sub (pm n) U) (nd : U.Nodup) (hg : g ∈ U) : PermL U.length (regP U g) := by
  have pg : PermL n g := u.P g hg
  refine ⟨List.length_map .., nodup_map (fun x hx y hy e => ?_) nd, fun e he => ?_⟩
  · have a := posOf_at (u.mul g hg x hx)
    have b := posOf_at (u.mul g hg y hy)
    have e : posOf U (mul g x) = posOf U (mul g y) := by omega
    have a : U[posOf U (mul g x)]? = some (mul g x) := a
    have b : U[posOf U (mul g y)]? = some (mul g y) := b
    rw [e, b] at a
    exact (pm n).canc pg (u.P x hx) (u.P y hy) (Option.some.inj a).symm
  · obtain ⟨x, hx, rfl⟩ := List.mem_map.mp he
    have a : U[posOf U (mul g x)]? = some (mul g x) := posOf_at (u.mul g hg x hx)
    have := (List.getElem?_eq_some_iff.mp a).1
    omega
def S_regular : Spc := fun as R => ∃ L : Lli, as = [.cl (.list (L.map encI))] ∧ L.length ≤ 1000 ∧ (∀ x ∈ L, PermL 8 x) ∧ ∀ (n : Nat) (F : Lli), 1 ≤ n → n ≤ 64 → F.length ≤ L.length → (∀ x ∈ F, PermL n x) → R (.fr, .list [.int n, .list (F.map encI)])
theorem w_regular {Γ : List Spc} (hC : Γ[15]? = some S_closed) (hc : Γ[14]? = some S_compose) : Ans Γ 1 9 ir_law_regular S_regular := by
  rintro as R ⟨L, rfl, hLl, hp, q⟩
  refine ⟨rfl, _, rfl, s0, ?_⟩
  refine ⟨_, [.cl (.int (8 : Nat)), .sh [], .cl (.int (64 : Nat))], _, hC, ⟨rfl, ⟨(fun z => nomatch z), rfl⟩, rfl, True.intro⟩, ⟨8, 64, [], rfl, by decide, by decide, by decide, (fun g m => nomatch m), fun L0 hc0 hl0 => ?_, fun no => ?_⟩, fun _ h => h⟩
  · refine ⟨(fun z => nomatch z), fun j ρ => ∃ (kept Lm : Lli) (s3 s7 : Sl), ρ = [.fz (.list (L.map encI)), .ol (kept.map encI), .fz (.list (Lm.map encI)), s3, .un, .un, .un, s7, .un] ∧ Cl (pm 8) kept Lm ∧ Lm.length ≤ 64 ∧ (∀ g ∈ kept, PermL 8 g) ∧ kept.length ≤ j,
      ⟨[], L0, .un, .un, rfl, hc0, hl0, (fun g h => nomatch h), Nat.zero_le _⟩, ?_, ?_⟩
    · rintro j d ρ hjd ⟨kept, Lm, s3, s7, rfl, hcl, hl, hk, hkl⟩
      obtain ⟨g, hgj, rfl⟩ := enc_of hjd
      have hjl := (List.getElem?_eq_some_iff.mp hgj).1
      have pg := hp g (List.mem_of_getElem? hgj)
      have hk2 : ∀ g' ∈ kept ++ [g], PermL 8 g' := fun g' h => (List.mem_append.mp h).elim (hk g') fun h => by
        rw [List.mem_singleton.mp h]
        exact pg
      refine ⟨_, rfl, s1, (fun z => nomatch z), (fun z => nomatch z), small (by rw [List.length_map]; show kept.length + 1 ≤ _; omega), ?_⟩
      refine ⟨_, [.cl (.int (8 : Nat)), .sh ((kept ++ [g]).map encI), .cl (.int (64 : Nat))], _, hC, ⟨rfl, ⟨(fun z => nomatch z), by rw [List.map_append]; rfl⟩, rfl, True.intro⟩, ⟨8, 64, kept ++ [g], rfl, by decide, by decide, by decide, hk2, fun L' hc' hl' => ?_, fun _ => ?_⟩, fun _ h => h⟩
      · refine ⟨_, rfl, iteT ?_⟩
        refine ⟨small' (by rw [List.length_map]; omega), _, rfl, ?_⟩
        exact ⟨kept ++ [g], L', _, _, by rw [List.map_append]; rfl, hc', hl', hk2, by rw [List.length_append, List.length_singleton]; omega⟩
      · exact ⟨_, rfl, iteF ⟨kept, Lm, _, _, rfl, hcl, hl, hk, by omega⟩⟩
    rintro ρ ⟨kept, Lm, s3, s7, rfl, hcl, hl, hk, hkl⟩
    rw [List.length_map] at hkl
    refine ⟨Lm, 8, rfl, by decide, fun m hm => ((hcl.sub hk).P m hm).len, fun U pU sU => ?_⟩
    have cU := Cl.perm hcl pU
    have ul : U.length ≤ 64 := by rw [pU.length_eq]; exact hl
    have uS := cU.sub hk
    have u1 := List.length_pos_of_mem uS.one
    have kU : ∀ g ∈ kept, g ∈ U := fun g hg => cU.gens hk hg
    refine ⟨[], rfl, rfl, by decide, ?_⟩
    refine ⟨by omega, by rw [List.length_map]; omega, (fun z => nomatch z), fun j ρ => ∃ (kvs : List (D × D)) (s5 : Sl), ρ = [.fz (.list (L.map encI)), .ol (kept.map encI), .fz (.list (U.map encI)), s3, .od true kvs, s5, .un, s7, .un] ∧ Idx kvs U j ∧ j ≤ U.length, ⟨[], .un, rfl, ⟨rfl, fun i x h => absurd h (Nat.not_lt_zero i)⟩, Nat.zero_le _⟩, ?_, ?_⟩
    · rintro j d ρ hjd ⟨kvs, s5, rfl, hi, hjU⟩
      obtain ⟨hj, rfl⟩ := range_at hjd
      rw [List.length_map] at hj
      obtain ⟨x, hx⟩ : ∃ x, U[j]? = some x := ⟨_, List.getElem?_eq_getElem hj⟩
      have kl : kvs.length = j := by
        have e := congrArg List.length hi.keys
        rw [List.length_map, List.length_map, List.length_take] at e
        omega
      exact ⟨_, rfl, _, at_nat (enc_at hx), rfl, key_enc _, small' (by omega), _, _, rfl, hi.step cU.nd hx, by omega⟩
    rintro ρ ⟨kvs, s5, rfl, hi, _⟩
    rw [List.length_map, List.length_range, Int.toNat_natCast, List.length_map] at hi
    refine ⟨_, rfl, s0, ?_⟩
    refine ⟨(fun z => nomatch z), fun j ρ => ∃ (s3 : Sl), ρ = [.fz (.list (L.map encI)), .fz (.list (kept.map encI)), .fz (.list (U.map encI)), s3, .od true kvs, s5, .ol (((kept.take j).map (regP U)).map encI), s7, .un], ⟨s3, rfl⟩, ?_, ?_⟩
    · rintro j d ρ hjd ⟨s3, rfl⟩
      obtain ⟨g, hgj, rfl⟩ := enc_of hjd
      have hjl := (List.getElem?_eq_some_iff.mp hgj).1
      have gk := List.mem_of_getElem? hgj
      have pg := hk g gk
      refine ⟨small' (by rw [List.length_map, List.length_map, List.length_take]; omega), ?_⟩
      refine lc_allE (fun d => .int ((posOf U (mul g (unT d)) : Nat) : Int)) ((regP U g).map .int) ?_ (fun d P p => p) (small (by rw [List.length_map]; show 0 + U.length ≤ _; omega)) (fun d hd P hP => ?_) ?_
      · unfold regP
        rw [List.nil_append, List.map_map, List.map_map]
        refine List.map_congr_left fun x _ => ?_
        show PyData.int ((posOf U (mul g (unT (encI x))) : Nat) : Int) = .int ((posOf U (mul g x) : Nat) : Int)
        rw [un_enc]
      · obtain ⟨x, hx, rfl⟩ := List.mem_map.mp hd
        have px : PermL 8 x := uS.P x hx
        have m := uS.mul g (kU g gk) x hx
        have pa : U[posOf U (mul g x)]? = some (mul g x) := posOf_at m
        refine ⟨_, [.cl _, .cl _], _, hc, ⟨rfl, rfl, True.intro⟩, ⟨g, x, rfl, fun e he => by rw [pg.len]; exact px.rg e he, by rw [px.len]; decide, ?_⟩, fun _ h => h⟩
        refine ⟨rfl, key_enc _, _, hi.at' _ _ (List.getElem?_eq_some_iff.mp pa).1 pa, hP _ ?_⟩
        show some (PyData.int ((posOf U (mul g x) : Nat) : Int)) = some (.int ((posOf U (mul g (unT (encI x))) : Nat) : Int))
        rw [un_enc]
      · refine ⟨_, rfl, .fz (encI g), ?_⟩
        rw [List.take_add_one, hgj, List.map_append, List.map_append]
        rfl
    · rintro ρ ⟨s3, rfl⟩
      rw [List.length_map, List.take_length]
      refine ⟨_, rfl, two, .inl rfl, ?_⟩
      have e : ((U.map encI).length : Int) = (U.length : Nat) := by rw [List.length_map]
      have z := q U.length (kept.map (regP U)) u1 ul (by rw [List.length_map]; omega) fun x hx => by
        obtain ⟨g, hg, rfl⟩ := List.mem_map.mp hx
        exact regP_ok uS cU.nd (kU g hg)
      rw [← e] at z
      exact z
  · have := no [idl 8] fun x g => by
      cases g with
      | one => exact .head _
      | step s _ => cases s
    exact absurd (show 64 < 1 from this) (by decide)
end K45

set_option Elab.async false
set_option linter.all false
set_option maxRecDepth 100000
set_option maxHeartbeats 4000000
/-! K45l: what the law draws. -/
namespace K45
open PySem
open L2
open Ir
open Gp
open Pm
open Kb
theorem pr_enc {n : Nat} : ∀ {L : List D}, (∀ x ∈ L, ∃ p, x = encI p ∧ PermL n p) → ∃ F : Lli, L = F.map encI ∧ ∀ x ∈ F, PermL n x
  | [], _ => ⟨[], rfl, fun x h => nomatch h⟩
  | x :: L, h => by
    obtain ⟨p, rfl, hp⟩ := h x (.head _)
    obtain ⟨F, rfl, hF⟩ := pr_enc fun y hy => h y (.tail _ hy)
    exact ⟨p :: F, rfl, fun y hy => by
      cases hy with
      | head => exact hp
      | tail _ hy => exact hF y hy⟩
theorem pr_int : ∀ {L : List D}, (∀ x ∈ L, ∃ c : Int, x = .int c) → ∃ cs : List Int, L = cs.map .int
  | [], _ => ⟨[], rfl⟩
  | x :: L, h => by
    obtain ⟨c, rfl⟩ := h x (.head _)
    obtain ⟨cs, rfl⟩ := pr_int fun y hy => h y (.tail _ hy)
    exact ⟨c :: cs, rfl⟩
theorem cells_lc {C : D → (Bool → Prop) → Prop} {F : D → Post → Prop} {Q : Post} {n : Nat} {cs : List Int} (hC : ∀ d P, P true → C d P) (hl : cs.length ≤ 1000) (hF : ∀ (c : Int) (P : Post), (∀ p, PermL n p → P (.cl, encI p)) → F (.int c) P)
    (q : ∀ L : Lli, L.length = cs.length → (∀ x ∈ L, PermL n x) → Q (.fr, .list (L.map encI))) : lcW C F Q (cs.map .int) [] := by
  refine lc_nd (Pr := fun x => ∃ p, x = encI p ∧ PermL n p) hC _ [] (by rw [List.length_map]; show 0 + cs.length ≤ _; omega) (fun d hd P hP => ?_) fun L h1 h2 => ?_
  · obtain ⟨c, _, rfl⟩ := List.mem_map.mp hd
    exact hF c P fun p hp => hP _ ⟨p, rfl, hp⟩
  · obtain ⟨F, rfl, hF⟩ := pr_enc h1
    rw [List.length_map, List.length_map] at h2
    exact q F h2 hF
section
variable {Γ : List Spc} {R : Post} {ns cs : List Int} {a0 a1 a2 a3 a4 a5 a6 a7 kd m : Int} {sz n : Nat} {bl : D} {F : Lli}
abbrev row8 (a0 a1 a2 a3 a4 a5 a6 a7 : Int) : D := .list [.int a0, .int a1, .int a2, .int a3, .int a4, .int a5, .int a6, .int a7]
def QD (R : Post) : Prop := ∀ (n : Nat) (L : Lli), 1 ≤ n → n ≤ 64 → L.length ≤ 10 → (∀ p ∈ L, PermL n p) → R (.fr, .list [.int n, .list (L.map encI)])
theorem drawnU {names : List Int} (h23 : Γ[23]? = some S_renum2) (q : QD R) (n1 : 1 ≤ n) (n2 : n ≤ 64) (hs : sz ≤ n) (hF : F.length ≤ 10) (hp : ∀ x ∈ F, PermL sz x) (hn : PermL n names) :
    W Γ (ssDrop 19 ir_law_drawn) [.sc ns, .fz (row8 a0 a1 a2 a3 a4 a5 a6 a7), .fz (.int kd), .fz (.int m), .fz (.list (cs.map .int)), .fz bl, .fz (.int n), .fz (encI names), .fz (.list (F.map encI)), .un, .un, .un] (fin R) := by
  refine lc_nd (Pr := fun x => ∃ p, x = encI p ∧ PermL n p) (fun d P p => p) _ [] (by rw [List.length_map]; show 0 + F.length ≤ _; omega) (fun d hd P hP => ?_) fun L h1 h2 => ?_
  · obtain ⟨x, hx, rfl⟩ := List.mem_map.mp hd
    exact ⟨_, [.cl _, .cl _], _, h23, ⟨rfl, rfl, True.intro⟩, ⟨sz, n, x, names, rfl, hs, by omega, hp x hx, hn, fun p pp => hP _ ⟨p, rfl, pp⟩⟩, fun _ h => h⟩
  · obtain ⟨L', rfl, hL⟩ := pr_enc h1
    rw [List.length_map, List.length_map] at h2
    exact ⟨_, rfl, two, .inl rfl, q n L' n1 n2 (by omega) hL⟩
theorem drawnT' (h11 : Γ[11]? = some S_cell) (h17 : Γ[17]? = some S_shuf) (h23 : Γ[23]? = some S_renum2) (q : QD R) (n1 : 1 ≤ n) (n2 : n ≤ 64) (hs : sz ≤ n) (hF : F.length ≤ 10) (hp : ∀ x ∈ F, PermL sz x) :
    W Γ (ssDrop 16 ir_law_drawn) [.sc ns, .fz (row8 a0 a1 a2 a3 a4 a5 a6 a7), .fz (.int kd), .fz (.int m), .fz (.list (cs.map .int)), .fz bl, .fz (.int n), .un, .fz (.list (F.map encI)), .un, .un, .un] (fin R) := by
  refine ⟨by omega, by omega, ?_⟩
  refine lc_idl (fun k => k) n (idl n) (List.map_id _) (by omega) (fun d P p => p) (fun k P hk p => p) ?_
  refine ⟨_, rfl, _, rfl, ite3 (fun _ => ?_) (fun _ => drawnU h23 q n1 n2 hs hF hp (PermL.id n))⟩
  refine ⟨_, [.sc ns, .cl (.int 1)], _, h11, ⟨⟨rfl, rfl⟩, rfl, True.intro⟩, ⟨ns, 1, rfl, by decide, fun c => ?_⟩, fun _ h => h⟩
  exact ⟨_, [.cl _, .cl _], _, h17, ⟨rfl, rfl, True.intro⟩, ⟨c, n, rfl, by omega, fun p hp' => drawnU h23 q n1 n2 hs hF hp hp'⟩, fun _ h => h⟩
theorem drawnT (h11 : Γ[11]? = some S_cell) (h17 : Γ[17]? = some S_shuf) (h23 : Γ[23]? = some S_renum2) (q : QD R) (s1 : 1 ≤ sz) (s2 : sz ≤ 64) (b5 : 0 ≤ a5) (hF : F.length ≤ 10) (hp : ∀ x ∈ F, PermL sz x) :
    W Γ (ssDrop 14 ir_law_drawn) [.sc ns, .fz (row8 a0 a1 a2 a3 a4 a5 a6 a7), .fz (.int kd), .fz (.int m), .fz (.list (cs.map .int)), .fz bl, .fz (.int sz), .un, .fz (.list (F.map encI)), .un, .un, .un] (fin R) := by
  refine ⟨_, rfl, 64, (sz : Int) + a5, rfl, rfl, ?_⟩
  by_cases c : (sz : Int) + a5 < 64
  · rw [if_pos c]
    obtain ⟨n, hn⟩ : ∃ n : Nat, (sz : Int) + a5 = n := ⟨((sz : Int) + a5).toNat, by omega⟩
    rw [hn]
    exact drawnT' h11 h17 h23 q (by omega) (by omega) (by omega) hF hp
  · rw [if_neg c]
    exact drawnT' (n := 64) h11 h17 h23 q (by omega) (by omega) (by omega) hF hp
end
def blks : List (List Int) := [[8], [4, 4], [4, 2, 2], [2, 2, 2, 2, 2, 2, 2], [16, 2], [32], [64], [8, 4], [4, 4, 2], [16], [8, 2, 2], [4, 2, 2, 2, 2]]
theorem blks_ok : ∀ b ∈ blks, b.length ≤ 7 ∧ 1 ≤ natSum b ∧ natSum b ≤ 64 ∧ b.sum = (natSum b : Nat) ∧ b.all fun x => decide (0 < x) && decide (x ≤ 64) := by decide +kernel
theorem get_const {l : List Int} {a : Int} (h0 : 0 ≤ a) (h1 : a < l.length) : ∃ x, x ∈ l ∧ atI (l.map PyData.int) a = some (.int x) := ⟨getI l a, getI_mem h0 h1, at_enc h0 h1⟩
theorem lay_ex : ∃ LM : Nat → Nat, LM 0 = 8 ∧ (∀ m, m < 15 → 2 ≤ LM m ∧ LM m ≤ 22) ∧ ∀ (c : Int) (mk : Nat) (P : Post), mk < 15 → (∀ p, PermL (LM mk) p → P (.cl, encI p)) → S_layers [.cl (.int c), .cl (.int (mk + 1 : Nat))] P :=
  ⟨fun m => lenM (m + 1 : Nat), by decide +kernel, fun m h => len_ok m (List.mem_range.mpr h), fun c mk P h1 h2 => ⟨c, mk, rfl, h1, h2⟩⟩
set_option maxHeartbeats 0 in
theorem drawnK {Γ : List Spc} {R : Post} {ns cs bl : List Int} {a0 a2 a3 a4 a5 a6 a7 kd : Int} {m1 : Nat} (h11 : Γ[11]? = some S_cell) (h17 : Γ[17]? = some S_shuf) (h18 : Γ[18]? = some S_layers) (h19 : Γ[19]? = some S_turns) (h20 : Γ[20]? = some S_aff) (h21 : Γ[21]? = some S_signed) (h22 : Γ[22]? = some S_regular) (h23 : Γ[23]? = some S_renum2)
    (q : QD R) (b1 : m1 < 15) (b3 : 0 ≤ a3 ∧ a3 < 6) (b5 : 0 ≤ a5 ∧ a5 < 3) (b7 : 0 ≤ a7 ∧ a7 < 62) (cl : cs.length ≤ 6) (k1 : bl.length ≤ 7) (k2 : 1 ≤ natSum bl) (k3 : natSum bl ≤ 64) (k4 : bl.sum = (natSum bl : Nat)) (k5 : ∀ b ∈ bl, 0 < b ∧ b ≤ 1000) (mm' : Int) :
    W Γ (ssDrop 12 ir_law_drawn) [.sc ns, .fz (row8 a0 m1 a2 a3 a4 a5 a6 a7), .fz (.int kd), .fz (.int mm'), .fz (.list (cs.map .int)), .fz (.list (bl.map .int)), .un, .un, .un, .un, .un, .un] (fin R) := by
  obtain ⟨LM, lm0, lmr, lay⟩ := lay_ex
  have tail : ∀ (sz : Nat) (F : Lli), 1 ≤ sz → sz ≤ 64 → F.length ≤ 10 → (∀ x ∈ F, PermL sz x) → W Γ (ssDrop 14 ir_law_drawn) [.sc ns, .fz (row8 a0 m1 a2 a3 a4 a5 a6 a7), .fz (.int kd), .fz (.int mm'), .fz (.list (cs.map .int)), .fz (.list (bl.map .int)), .fz (.int sz), .un, .fz (.list (F.map encI)), .un, .un, .un] (fin R) :=
    fun sz F s1 s2 hF hp => drawnT h11 h17 h23 q s1 s2 b5.1 hF hp
  refine ⟨_, rfl, ite3 (fun _ => ?_) (fun e0 => ?_)⟩
  · refine cells_lc (n := 8) (fun d P p => p) (by omega) (fun c P hP => ?_) fun F lF hF => tail 8 F (by decide) (by decide) (by omega) hF
    exact ⟨_, [.cl _, .cl (.int (0 + 1 : Nat))], _, h18, ⟨rfl, rfl, True.intro⟩, lay c 0 _ (by decide) (fun p hp => hP p (by rw [lm0] at hp; exact hp)), fun _ h => h⟩
  refine ⟨_, rfl, ite3 (fun _ => ?_) (fun e1 => ?_)⟩
  · have eA : 1 + (m1 : Int) = ((m1 + 1 : Nat) : Int) := by omega
    obtain ⟨l1, l2⟩ := lmr m1 (by omega)
    have call : ∀ (c : Int) (P : Post), (∀ p, PermL (LM m1) p → P (.cl, encI p)) → ∃ T as' R', Γ[18]? = some T ∧ argsOk [(.cl, .int c), (.cl, .int (1 + (m1 : Int)))] as' ∧ T as' R' ∧ ∀ r, R' r → P r := fun c P h => ⟨_, [.cl _, .cl (.int (m1 + 1 : Nat))], _, h18, ⟨rfl, congrArg (fun i : Int => some (PyData.int i)) eA, True.intro⟩, lay c m1 _ (by omega) h, fun _ h => h⟩
    refine ⟨_, rfl, call 0 _ fun p hp => ?_⟩
    have ep : (((p.map PyData.int).length : Nat) : Int) = (LM m1 : Nat) := by rw [List.length_map, hp.len]
    refine cells_lc (n := LM m1) (fun d P p => p) (by omega) (fun c P hP => ⟨_, rfl, call c _ hP⟩) fun F lF hF => ?_
    have t := tail (LM m1) F (by omega) (by omega) (by omega) hF
    rw [← ep] at t
    exact t
  refine ⟨_, rfl, ite3 (fun _ => ?_) (fun e2 => ?_)⟩
  · refine ⟨bl, rfl, ?_⟩
    refine cells_lc (n := natSum bl) (fun d P p => p) (by omega) (fun c P hP => ?_) fun F lF hF => ?_
    · exact ⟨_, [.cl _, .cl _], _, h19, ⟨rfl, rfl, True.intro⟩, ⟨c, bl, rfl, by omega, k5, hP⟩, fun _ h => h⟩
    · have t := tail (natSum bl) F k2 k3 (by omega) hF
      rw [← k4] at t
      exact t
  refine ⟨_, rfl, ite3 (fun _ => ?_) (fun e3 => ?_)⟩
  · obtain ⟨s, sm, hs⟩ := get_const (l := [4, 8, 16, 8, 32, 64]) b3.1 b3.2
    have s64 : 2 ≤ s ∧ s ≤ 64 := by
      have all : ∀ x ∈ ([4, 8, 16, 8, 32, 64] : List Int), 2 ≤ x ∧ x ≤ 64 := by decide
      exact all s sm
    obtain ⟨sz, rfl⟩ : ∃ k : Nat, s = k := ⟨s.toNat, by omega⟩
    refine ⟨_, rfl, by show 6 ≤ sizeLine; decide, _, rfl, _, hs, ?_⟩
    refine cells_lc (n := sz) (fun d P p => p) (by omega) (fun c P hP => ?_) fun F lF hF => tail sz F (by omega) (by omega) (by omega) hF
    exact ⟨_, [.cl _, .cl _], _, h20, ⟨rfl, rfl, True.intro⟩, ⟨c, sz, rfl, by omega, by omega, hP⟩, fun _ h => h⟩
  refine ⟨_, rfl, ite3 (fun _ => ?_) (fun e4 => ?_)⟩
  · refine cells_lc (n := 8) (fun d P p => p) (by omega) (fun c P hP => ?_) fun F lF hF => ?_
    · exact ⟨_, [.cl _, .cl (.int (0 + 1 : Nat))], _, h18, ⟨rfl, rfl, True.intro⟩, lay c 0 _ (by decide) (fun p hp => hP p (by rw [lm0] at hp; exact hp)), fun _ h => h⟩
    · refine ⟨_, [.cl _], _, h22, ⟨rfl, True.intro⟩, ⟨F, rfl, by omega, hF, fun n F' n1 n2 l2 h2 => ?_⟩, fun _ h => h⟩
      exact ⟨rfl, tail n F' n1 n2 (by omega) h2⟩
  refine ⟨_, rfl, ite3 (fun _ => ?_) (fun e5 => ?_)⟩
  · refine cells_lc (n := 8) (fun d P p => p) (by omega) (fun c P hP => ?_) fun F lF hF => tail 8 F (by decide) (by decide) (by omega) hF
    exact ⟨_, [.cl _], _, h21, ⟨rfl, True.intro⟩, ⟨c, rfl, hP⟩, fun _ h => h⟩
  · have s0' := Int.emod_nonneg a7 (show (4 : Int) ≠ 0 by decide)
    have s1' := Int.emod_lt_of_pos a7 (show (0 : Int) < 4 by decide)
    have go : ∀ (s : Int), 3 ≤ s → s ≤ 64 → W Γ (ssDrop 2 (match ssDrop 13 ir_law_drawn with
        | .cons (.iff _ _ (.cons (.iff _ _ (.cons (.iff _ _ (.cons (.iff _ _ (.cons (.iff _ _ (.cons (.iff _ _ e) _)) _)) _)) _)) _)) _ => e
        | _ => .nil)) [.sc ns, .fz (row8 a0 m1 a2 a3 a4 a5 a6 a7), .fz (.int kd), .fz (.int mm'), .fz (.list (cs.map .int)), .fz (.list (bl.map .int)), .fz (.int s), .un, .un, .un, .un, .un] { nx := fun ρ' => W Γ (ssDrop 14 ir_law_drawn) ρ' (fin R), rt := (fin R).rt, bk := (fin R).bk, ct := (fin R).ct } := fun s h1 h2 => by
      obtain ⟨sz, rfl⟩ : ∃ k : Nat, s = k := ⟨s.toNat, by omega⟩
      refine cells_lc (n := sz) (fun d P p => p) (by omega) (fun c P hP => ?_) fun F lF hF => tail sz F (by omega) (by omega) (by omega) hF
      exact ⟨_, [.cl _, .cl _], _, h17, ⟨rfl, rfl, True.intro⟩, ⟨c, sz, rfl, by omega, hP⟩, fun _ h => h⟩
    by_cases c5 : a3 = 5
    · subst c5
      exact ⟨_, rfl, by decide, _, rfl, _, rfl, two, _, rfl, _, rfl, go _ (by omega) (by omega)⟩
    · have e : decide (a3 = 5) = false := decide_eq_false c5
      refine ⟨_, rfl, by decide, _, rfl, _, rfl, two, _, rfl, ?_⟩
      show ∃ d, atI [PyData.int (3 + a7 % 4), PyData.int (3 + a7)] (if decide (a3 = 5) = true then 1 else 0) = some d ∧ _
      rw [e]
      exact ⟨_, rfl, go _ (by omega) (by omega)⟩
set_option maxHeartbeats 0 in
theorem w_drawn {Γ : List Spc} (h11 : Γ[11]? = some S_cell) (h12 : Γ[12]? = some S_digits) (h17 : Γ[17]? = some S_shuf) (h18 : Γ[18]? = some S_layers) (h19 : Γ[19]? = some S_turns) (h20 : Γ[20]? = some S_aff) (h21 : Γ[21]? = some S_signed) (h22 : Γ[22]? = some S_regular) (h23 : Γ[23]? = some S_renum2) :
    Ans Γ 1 12 ir_law_drawn S_drawn := by
  rintro as R ⟨ns, rfl, q⟩
  refine ⟨rfl, ?_⟩
  refine ⟨_, [.sc ns, .cl (.int 0)], _, h11, ⟨⟨rfl, rfl⟩, rfl, True.intro⟩, ⟨ns, 0, rfl, by decide, fun c => ?_⟩, fun _ h => h⟩
  refine ⟨_, rfl, by show 8 ≤ sizeLine; decide, ?_⟩
  refine ⟨_, [.cl _, .sh (([11, 15, 12, 6, 6, 3, 4, 62] : List Int).map .int)], _, h12, ⟨rfl, ⟨(fun z => nomatch z), rfl⟩, True.intro⟩, ⟨c, [11, 15, 12, 6, 6, 3, 4, 62], rfl, by decide, by decide, fun ds hd => ?_⟩, fun _ h => h⟩
  have dl : ds.length = 8 := hd.1
  obtain ⟨a0, a1, a2, a3, a4, a5, a6, a7, rfl⟩ : ∃ a0 a1 a2 a3 a4 a5 a6 a7, ds = [a0, a1, a2, a3, a4, a5, a6, a7] := by
    match ds, dl with
    | [a0, a1, a2, a3, a4, a5, a6, a7], _ => exact ⟨a0, a1, a2, a3, a4, a5, a6, a7, rfl⟩
  have b0 := hd.2 0 11 a0 rfl rfl
  have b1 := hd.2 1 15 a1 rfl rfl
  have b2 := hd.2 2 12 a2 rfl rfl
  have b3 := hd.2 3 6 a3 rfl rfl
  have b4 := hd.2 4 6 a4 rfl rfl
  have b5 := hd.2 5 3 a5 rfl rfl
  have b7 := hd.2 7 62 a7 rfl rfl
  clear hd dl
  -- the kind
  obtain ⟨kd, kdm, hkd⟩ := get_const (l := [0, 0, 1, 1, 2, 3, 4, 6, 5, 5, 5]) b0.1 b0.2
  have kd6 : 0 ≤ kd ∧ kd ≤ 6 := by
    have all : ∀ x ∈ ([0, 0, 1, 1, 2, 3, 4, 6, 5, 5, 5] : List Int), 0 ≤ x ∧ x ≤ 6 := by decide
    exact all kd kdm
  refine ⟨_, rfl, by show 11 ≤ sizeLine; decide, _, rfl, _, hkd, ?_⟩
  obtain ⟨mm, mmm, hmm⟩ := get_const (l := [2, 3, 4, 2, 3, 1]) b4.1 b4.2
  have mm4 : 1 ≤ mm ∧ mm ≤ 4 := by
    have all : ∀ x ∈ ([2, 3, 4, 2, 3, 1] : List Int), 1 ≤ x ∧ x ≤ 4 := by decide
    exact all mm mmm
  refine ⟨_, rfl, by show 6 ≤ sizeLine; decide, _, rfl, _, hmm, div_ok (by decide) (by decide), mulL (by decide) (by decide), ?_⟩
  obtain ⟨m, hm⟩ : ∃ m : Nat, mm + 2 * (kd / 5) = m := ⟨(mm + 2 * (kd / 5)).toNat, by omega⟩
  have m6 : m ≤ 6 := by omega
  refine ⟨by omega, by omega, ?_⟩
  refine lc_nd (Pr := fun x => ∃ c : Int, x = .int c) (fun d P p => p) _ [] (by rw [List.length_map, List.length_range]; show 0 + _ ≤ _; omega) (fun d hd P hP => ?_) fun L h1 h2 => ?_
  · obtain ⟨k, _, rfl⟩ := List.mem_map.mp hd
    exact ⟨_, [.sc ns, .cl (.int (4 + k))], _, h11, ⟨⟨rfl, rfl⟩, rfl, True.intro⟩, ⟨ns, 4 + k, rfl, by omega, fun c => hP _ ⟨c, rfl⟩⟩, fun _ h => h⟩
  obtain ⟨cs, rfl⟩ := pr_int h1
  have cl : cs.length ≤ 6 := by
    rw [List.length_map, List.length_map, List.length_range] at h2
    omega
  clear h1 h2
  -- the blocks
  refine ⟨_, rfl, small (by decide), _, rfl, small (by decide), _, rfl, small (by decide), _, rfl, small (by decide), _, rfl, small (by decide), _, rfl, small (by decide), _, rfl, small (by decide), _, rfl, small (by decide), _, rfl, small (by decide), _, rfl, small (by decide), _, rfl, small (by decide), _, rfl, small (by decide), ?_⟩
  obtain ⟨bl, blm, hbl⟩ : ∃ bl, bl ∈ blks ∧ atI (blks.map fun b => PyData.list (b.map .int)) a2 = some (.list (bl.map .int)) := by
    obtain ⟨k, rfl⟩ : ∃ k : Nat, a2 = k := ⟨a2.toNat, by omega⟩
    have lt : k < blks.length := by
      show k < 12
      omega
    exact ⟨blks[k], List.getElem_mem lt, at_nat (by rw [List.getElem?_map, List.getElem?_eq_getElem lt]; rfl)⟩
  obtain ⟨k1, k2, k3, k4, k5⟩ := blks_ok bl blm
  have k5 : ∀ b ∈ bl, 0 < b ∧ b ≤ 1000 := fun b hb => by
    have z := List.all_eq_true.mp k5 b hb
    rw [Bool.and_eq_true, decide_eq_true_eq, decide_eq_true_eq] at z
    omega
  refine ⟨_, rfl, small (by decide), _, rfl, small (by decide), (fun z => nomatch z), (fun z => nomatch z), small (by decide), _, rfl, _, hbl, ?_⟩
  obtain ⟨m1, rfl⟩ : ∃ k : Nat, a1 = k := ⟨a1.toNat, by omega⟩
  exact drawnK h11 h17 h18 h19 h20 h21 h22 h23 q (by omega) b3 b5 b7 cl k1 k2 k3 k4 k5 _
end K45

set_option Elab.async false
set_option linter.all false
set_option maxRecDepth 100000
set_option maxHeartbeats 4000000
/-! K45m: the law. -/
namespace K45
open PySem
open L2
open Ir
open Gp
open Pm
open Kb
theorem one_tab (n : Nat) (h1 : 1 ≤ n) (h2 : n ≤ 64) : Tab n [idl n] := by
  refine ⟨h1, h2, ⟨⟨.head _, fun a ha b hb => ?_, fun a ha => ?_⟩, List.pairwise_singleton _ _⟩, List.pairwise_singleton _ _, ⟨0, rfl⟩, by show 1 ≤ 128; decide⟩
  · rw [List.mem_singleton.mp ha, List.mem_singleton.mp hb]
    have z : (pm n).mul (idl n) (idl n) = idl n := (pm n).one_mul (PermL.id n)
    rw [z]
    exact .head _
  · rw [List.mem_singleton.mp ha]
    exact PermL.id n
theorem one_stab {n : Nat} {p : Int} (p0 : 0 ≤ p) (p1 : p < n) : stab [idl n] p = [idl n] := by
  unfold stab
  rw [List.filter_cons, if_pos (decide_eq_true (idl_get p0 p1))]
  rfl
theorem w_law {Γ : List Spc} (most : Nat) (h9 : Γ[9]? = some S_hchain) (h11 : Γ[11]? = some S_cell) (h12 : Γ[12]? = some S_digits) (h16 : Γ[16]? = some S_accepted) (h24 : Γ[24]? = some S_drawn) (h30 : Γ[30]? = some S_istab) (h31 : Γ[31]? = some S_asks) : Ans Γ 1 11 ir_law (spT most) := by
  rintro as R ⟨ns, rfl, _, q⟩
  refine ⟨rfl, ?_⟩
  refine ⟨_, [.sc ns], _, h24, ⟨⟨rfl, rfl⟩, True.intro⟩, ⟨ns, rfl, fun n L hn1 hn hL hp => ⟨rfl, ?_⟩⟩, fun _ h => h⟩
  refine ⟨_, [.cl (.int n), .cl (.list (L.map encI)), .cl (.int 128)], _, h16, ⟨rfl, rfl, rfl, True.intro⟩, ⟨n, L, rfl, hn1, hn, by omega, hp, fun fd T tb => ?_⟩, fun _ h => h⟩
  refine ⟨_, rfl, ?_⟩
  refine ⟨_, [.sc ns, .cl (.int 2)], _, h11, ⟨⟨rfl, rfl⟩, rfl, True.intro⟩, ⟨ns, 2, rfl, by decide, fun c => ?_⟩, fun _ h => h⟩
  refine ⟨_, rfl, by show 4 ≤ sizeLine; decide, ?_⟩
  refine ⟨_, [.cl _, .sh (([64, 64, 2, 2] : List Int).map .int)], _, h12, ⟨rfl, ⟨(fun z => nomatch z), rfl⟩, True.intro⟩, ⟨c, [64, 64, 2, 2], rfl, by decide, by decide, fun ds hd => ?_⟩, fun _ h => h⟩
  have dl : ds.length = 4 := hd.1
  obtain ⟨r0, r1, r2, r3, rfl⟩ : ∃ r0 r1 r2 r3, ds = [r0, r1, r2, r3] := by
    match ds, dl with
    | [r0, r1, r2, r3], _ => exact ⟨r0, r1, r2, r3, rfl⟩
  clear hd dl
  refine ⟨by omega, by omega, ?_⟩
  refine lc_idl (fun k => k) n (idl n) (List.map_id _) (by omega) (fun d P p => p) (fun k P hk p => p) ?_
  refine ⟨_, rfl, by omega, ?_⟩
  refine ⟨_, rfl, by omega, ?_⟩
  have p0 := Int.emod_nonneg r0 (show (n : Int) ≠ 0 by omega)
  have p1 := Int.emod_lt_of_pos r0 (show (0 : Int) < n by omega)
  have s0' := Int.emod_nonneg r1 (show (n : Int) ≠ 0 by omega)
  have s1' := Int.emod_lt_of_pos r1 (show (0 : Int) < n by omega)
  have ask : ∀ (U : Lli) (p : Int) (b : Bool) (Q : Post), Tab n U → 0 ≤ p → p < n → Q (.cl, .bool true) → ∃ T as' R', Γ[31]? = some T ∧ argsOk [(.cl, .list (U.map encI)), (.cl, .int p), (.cl, .bool b)] as' ∧ T as' R' ∧ ∀ r, R' r → Q r := fun U p b Q t h1 h2 hq =>
    ⟨_, [.cl _, .cl _, .cl _], _, h31, ⟨rfl, rfl, rfl, True.intro⟩, ⟨n, U, p, b, rfl, t, h1, h2, hq⟩, fun _ h => h⟩
  have tf : ∀ {B : Post}, B (.cl, .bool true) → (∀ z, (PyData.bool true) = .str z → z.length ≤ sizeLine) ∧ (∀ z, (PyData.bool true) ≠ .dict z) ∧ B (.cl, .bool (truth (.bool true))) := fun h => ⟨(fun z h => nomatch h), (fun z h => nomatch h), h⟩
  -- the table
  refine ⟨_, rfl, ask T _ _ _ tb p0 p1 (tf ⟨_, rfl, _, rfl, iteF ?_⟩)⟩
  refine ⟨_, rfl, ask T _ _ _ tb s0' s1' (tf ⟨_, rfl, _, rfl, iteF ?_⟩)⟩
  have hP : ∀ x ∈ T, PermL n x := tb.g.sub.P
  have tl := tb.len
  refine lc_keep (p := fun x => decide (getI x (r0 % n) = r0 % n)) T [] (by show 0 + T.length ≤ _; omega) (fun x hx P hP' => ?_) (fun x hx P hP => hP) ?_
  · have px := hP x hx
    exact ⟨_, at_enc p0 (by rw [px.len]; exact p1), _, rfl, hP'⟩
  have ts : Tab n (stab T (r0 % n)) := stab_tab tb p0 p1
  refine ⟨_, rfl, ask (stab T (r0 % n)) _ _ _ ts p0 p1 (tf ⟨_, rfl, _, rfl, iteF ?_⟩)⟩
  refine ⟨_, rfl, ask (stab T (r0 % n)) _ _ _ ts s0' s1' (tf ⟨_, rfl, _, rfl, iteF ?_⟩)⟩
  -- the one alone
  have t1 := one_tab n hn1 hn
  refine ⟨_, rfl, s1, ?_⟩
  refine ⟨_, [.cl (wholeD false [idl n]), .cl _], _, h9, ⟨rfl, rfl, True.intro⟩, ⟨false, n, [idl n], r0 % n, rfl, t1, p0, p1, fun C full => ?_⟩, fun _ h => h⟩
  have eC : C = [[idl n]] := by
    have es := one_stab (n := n) p0 p1
    rw [es] at full
    exact Full.uniq t1.g t1.g (fun y h => h) t1.srt full ⟨.start, [], rfl⟩
  subst eC
  refine ⟨_, rfl, s1, _, rfl, s1, ?_⟩
  refine ⟨_, [.cl (.tuple ([[idl n]].map tupT)), .cl (.list ([[idl n]].map lstT))], _, h30, ⟨rfl, rfl, True.intro⟩, ⟨n, [[idl n]], rfl, by omega, by show 1 ≤ 1000; decide, fun L hL => ?_, tf ⟨_, rfl, _, rfl, iteF ?_⟩⟩, fun _ h => h⟩
  · rw [List.mem_singleton.mp hL]
    exact ⟨by show 1 ≤ 1000; decide, t1.g.sub.P⟩
  · exact ask T _ false _ tb p0 p1 ⟨.inr rfl, q⟩
end K45

set_option Elab.async false
set_option linter.all false
set_option maxRecDepth 100000
set_option maxHeartbeats 4000000
namespace K45
open PySem
open L2
open PySem.Spec
open Ir
open Gp
open Pm
open Kb
theorem all_mk {l : PySem.W.OpenLaw} {w : World} {K : PySem.W.Frag} {h : Heap} {mg : Str → Option Value} {fa : Addr} (X : K.In h) (G : h.Ns mainGlobals mg) (hfa : mg "law" = some (.ref fa))
    {f0 : Addr} {od0 an0 : Option Addr} {sl0 : Array (Option Value)} {oc0 kV0 dc0 pm0 cd0 ct0 : Value} (a0 : PySem.W.nsIn K mainGlobals "frozen" = some (some (.ref f0)))
    (l0 : K.lookup f0 = some ⟨oc0, od0, .func (PySem.W.fnOf "frozen" "frozen" (defArgs s_frozen) (defBody s_frozen) (defScope s_frozen) .none kV0 dc0 pm0 an0 cd0 ct0), sl0⟩) (c0 : PySem.W.codeIn K cd0 "frozen" = true) (k0 : PySem.W.keepIn K (.ref f0) = true)
    {f1 : Addr} {od1 an1 : Option Addr} {sl1 : Array (Option Value)} {oc1 kV1 dc1 pm1 cd1 ct1 : Value} (a1 : PySem.W.nsIn K mainGlobals "identity" = some (some (.ref f1)))
    (l1 : K.lookup f1 = some ⟨oc1, od1, .func (PySem.W.fnOf "identity" "identity" (defArgs s_identity) (defBody s_identity) (defScope s_identity) .none kV1 dc1 pm1 an1 cd1 ct1), sl1⟩) (c1 : PySem.W.codeIn K cd1 "identity" = true) (k1 : PySem.W.keepIn K (.ref f1) = true)
    {f2 : Addr} {od2 an2 : Option Addr} {sl2 : Array (Option Value)} {oc2 kV2 dc2 pm2 cd2 ct2 : Value} (a2 : PySem.W.nsIn K mainGlobals "compose" = some (some (.ref f2)))
    (l2 : K.lookup f2 = some ⟨oc2, od2, .func (PySem.W.fnOf "compose" "compose" (defArgs s_compose) (defBody s_compose) (defScope s_compose) .none kV2 dc2 pm2 an2 cd2 ct2), sl2⟩) (c2 : PySem.W.codeIn K cd2 "compose" = true) (k2 : PySem.W.keepIn K (.ref f2) = true)
    {f3 : Addr} {od3 an3 : Option Addr} {sl3 : Array (Option Value)} {oc3 kV3 dc3 pm3 cd3 ct3 : Value} (a3 : PySem.W.nsIn K mainGlobals "inverse" = some (some (.ref f3)))
    (l3 : K.lookup f3 = some ⟨oc3, od3, .func (PySem.W.fnOf "inverse" "inverse" (defArgs s_inverse) (defBody s_inverse) (defScope s_inverse) .none kV3 dc3 pm3 an3 cd3 ct3), sl3⟩) (c3 : PySem.W.codeIn K cd3 "inverse" = true) (k3 : PySem.W.keepIn K (.ref f3) = true)
    {f4 : Addr} {od4 an4 : Option Addr} {sl4 : Array (Option Value)} {oc4 kV4 dc4 pm4 cd4 ct4 : Value} (a4 : PySem.W.nsIn K mainGlobals "closure" = some (some (.ref f4)))
    (l4 : K.lookup f4 = some ⟨oc4, od4, .func (PySem.W.fnOf "closure" "closure" (defArgs s_closure) (defBody s_closure) (defScope s_closure) .none kV4 dc4 pm4 an4 cd4 ct4), sl4⟩) (c4 : PySem.W.codeIn K cd4 "closure" = true) (k4 : PySem.W.keepIn K (.ref f4) = true)
    {f5 : Addr} {od5 an5 : Option Addr} {sl5 : Array (Option Value)} {oc5 kV5 dc5 pm5 cd5 ct5 : Value} (a5 : PySem.W.nsIn K mainGlobals "generated" = some (some (.ref f5)))
    (l5 : K.lookup f5 = some ⟨oc5, od5, .func (PySem.W.fnOf "generated" "generated" (defArgs s_generated) (defBody s_generated) (defScope s_generated) .none kV5 dc5 pm5 an5 cd5 ct5), sl5⟩) (c5 : PySem.W.codeIn K cd5 "generated" = true) (k5 : PySem.W.keepIn K (.ref f5) = true)
    {f6 : Addr} {od6 an6 : Option Addr} {sl6 : Array (Option Value)} {oc6 kV6 dc6 pm6 cd6 ct6 : Value} (a6 : PySem.W.nsIn K mainGlobals "stabilizer" = some (some (.ref f6)))
    (l6 : K.lookup f6 = some ⟨oc6, od6, .func (PySem.W.fnOf "stabilizer" "stabilizer" (defArgs s_stabilizer) (defBody s_stabilizer) (defScope s_stabilizer) .none kV6 dc6 pm6 an6 cd6 ct6), sl6⟩) (c6 : PySem.W.codeIn K cd6 "stabilizer" = true) (k6 : PySem.W.keepIn K (.ref f6) = true)
    {f7 : Addr} {od7 an7 : Option Addr} {sl7 : Array (Option Value)} {oc7 kV7 dc7 pm7 cd7 ct7 : Value} (a7 : PySem.W.nsIn K mainGlobals "doubling_member" = some (some (.ref f7)))
    (l7 : K.lookup f7 = some ⟨oc7, od7, .func (PySem.W.fnOf "doubling_member" "doubling_member" (defArgs s_doubling_member) (defBody s_doubling_member) (defScope s_doubling_member) .none kV7 dc7 pm7 an7 cd7 ct7), sl7⟩) (c7 : PySem.W.codeIn K cd7 "doubling_member" = true) (k7 : PySem.W.keepIn K (.ref f7) = true)
    {f8 : Addr} {od8 an8 : Option Addr} {sl8 : Array (Option Value)} {oc8 kV8 dc8 pm8 cd8 ct8 : Value} (a8 : PySem.W.nsIn K mainGlobals "halving_steps" = some (some (.ref f8)))
    (l8 : K.lookup f8 = some ⟨oc8, od8, .func (PySem.W.fnOf "halving_steps" "halving_steps" (defArgs s_halving_steps) (defBody s_halving_steps) (defScope s_halving_steps) .none kV8 dc8 pm8 an8 cd8 ct8), sl8⟩) (c8 : PySem.W.codeIn K cd8 "halving_steps" = true) (k8 : PySem.W.keepIn K (.ref f8) = true)
    {f9 : Addr} {od9 an9 : Option Addr} {sl9 : Array (Option Value)} {oc9 kV9 dc9 pm9 cd9 ct9 : Value} (a9 : PySem.W.nsIn K mainGlobals "halving_chain" = some (some (.ref f9)))
    (l9 : K.lookup f9 = some ⟨oc9, od9, .func (PySem.W.fnOf "halving_chain" "halving_chain" (defArgs s_halving_chain) (defBody s_halving_chain) (defScope s_halving_chain) .none kV9 dc9 pm9 an9 cd9 ct9), sl9⟩) (c9 : PySem.W.codeIn K cd9 "halving_chain" = true) (k9 : PySem.W.keepIn K (.ref f9) = true)
    {f10 : Addr} {od10 an10 : Option Addr} {sl10 : Array (Option Value)} {oc10 kV10 dc10 pm10 cd10 ct10 : Value} (a10 : PySem.W.nsIn K mainGlobals "_law_whole" = some (some (.ref f10)))
    (l10 : K.lookup f10 = some ⟨oc10, od10, .func (PySem.W.fnOf "_law_whole" "_law_whole" (defArgs s_law_whole) (defBody s_law_whole) (defScope s_law_whole) .none kV10 dc10 pm10 an10 cd10 ct10), sl10⟩) (c10 : PySem.W.codeIn K cd10 "_law_whole" = true) (k10 : PySem.W.keepIn K (.ref f10) = true)
    {f11 : Addr} {od11 an11 : Option Addr} {sl11 : Array (Option Value)} {oc11 kV11 dc11 pm11 cd11 ct11 : Value} (a11 : PySem.W.nsIn K mainGlobals "_law_cell" = some (some (.ref f11)))
    (l11 : K.lookup f11 = some ⟨oc11, od11, .func (PySem.W.fnOf "_law_cell" "_law_cell" (defArgs s_law_cell) (defBody s_law_cell) (defScope s_law_cell) .none kV11 dc11 pm11 an11 cd11 ct11), sl11⟩) (c11 : PySem.W.codeIn K cd11 "_law_cell" = true) (k11 : PySem.W.keepIn K (.ref f11) = true)
    {f12 : Addr} {od12 an12 : Option Addr} {sl12 : Array (Option Value)} {oc12 kV12 dc12 pm12 cd12 ct12 : Value} (a12 : PySem.W.nsIn K mainGlobals "_law_digits" = some (some (.ref f12)))
    (l12 : K.lookup f12 = some ⟨oc12, od12, .func (PySem.W.fnOf "_law_digits" "_law_digits" (defArgs s_law_digits) (defBody s_law_digits) (defScope s_law_digits) .none kV12 dc12 pm12 an12 cd12 ct12), sl12⟩) (c12 : PySem.W.codeIn K cd12 "_law_digits" = true) (k12 : PySem.W.keepIn K (.ref f12) = true)
    {f13 : Addr} {od13 an13 : Option Addr} {sl13 : Array (Option Value)} {oc13 kV13 dc13 pm13 cd13 ct13 : Value} (a13 : PySem.W.nsIn K mainGlobals "_law_gcd" = some (some (.ref f13)))
    (l13 : K.lookup f13 = some ⟨oc13, od13, .func (PySem.W.fnOf "_law_gcd" "_law_gcd" (defArgs s_law_gcd) (defBody s_law_gcd) (defScope s_law_gcd) .none kV13 dc13 pm13 an13 cd13 ct13), sl13⟩) (c13 : PySem.W.codeIn K cd13 "_law_gcd" = true) (k13 : PySem.W.keepIn K (.ref f13) = true)
    {f14 : Addr} {od14 an14 : Option Addr} {sl14 : Array (Option Value)} {oc14 kV14 dc14 pm14 cd14 ct14 : Value} (a14 : PySem.W.nsIn K mainGlobals "_law_compose" = some (some (.ref f14)))
    (l14 : K.lookup f14 = some ⟨oc14, od14, .func (PySem.W.fnOf "_law_compose" "_law_compose" (defArgs s_law_compose) (defBody s_law_compose) (defScope s_law_compose) .none kV14 dc14 pm14 an14 cd14 ct14), sl14⟩) (c14 : PySem.W.codeIn K cd14 "_law_compose" = true) (k14 : PySem.W.keepIn K (.ref f14) = true)
    {f15 : Addr} {od15 an15 : Option Addr} {sl15 : Array (Option Value)} {oc15 kV15 dc15 pm15 cd15 ct15 : Value} (a15 : PySem.W.nsIn K mainGlobals "_law_closed" = some (some (.ref f15)))
    (l15 : K.lookup f15 = some ⟨oc15, od15, .func (PySem.W.fnOf "_law_closed" "_law_closed" (defArgs s_law_closed) (defBody s_law_closed) (defScope s_law_closed) .none kV15 dc15 pm15 an15 cd15 ct15), sl15⟩) (c15 : PySem.W.codeIn K cd15 "_law_closed" = true) (k15 : PySem.W.keepIn K (.ref f15) = true)
    {f16 : Addr} {od16 an16 : Option Addr} {sl16 : Array (Option Value)} {oc16 kV16 dc16 pm16 cd16 ct16 : Value} (a16 : PySem.W.nsIn K mainGlobals "_law_accepted" = some (some (.ref f16)))
    (l16 : K.lookup f16 = some ⟨oc16, od16, .func (PySem.W.fnOf "_law_accepted" "_law_accepted" (defArgs s_law_accepted) (defBody s_law_accepted) (defScope s_law_accepted) .none kV16 dc16 pm16 an16 cd16 ct16), sl16⟩) (c16 : PySem.W.codeIn K cd16 "_law_accepted" = true) (k16 : PySem.W.keepIn K (.ref f16) = true)
    {f17 : Addr} {od17 an17 : Option Addr} {sl17 : Array (Option Value)} {oc17 kV17 dc17 pm17 cd17 ct17 : Value} (a17 : PySem.W.nsIn K mainGlobals "_law_shuffled" = some (some (.ref f17)))
    (l17 : K.lookup f17 = some ⟨oc17, od17, .func (PySem.W.fnOf "_law_shuffled" "_law_shuffled" (defArgs s_law_shuffled) (defBody s_law_shuffled) (defScope s_law_shuffled) .none kV17 dc17 pm17 an17 cd17 ct17), sl17⟩) (c17 : PySem.W.codeIn K cd17 "_law_shuffled" = true) (k17 : PySem.W.keepIn K (.ref f17) = true)
    {f18 : Addr} {od18 an18 : Option Addr} {sl18 : Array (Option Value)} {oc18 kV18 dc18 pm18 cd18 ct18 : Value} (a18 : PySem.W.nsIn K mainGlobals "_law_layers" = some (some (.ref f18)))
    (l18 : K.lookup f18 = some ⟨oc18, od18, .func (PySem.W.fnOf "_law_layers" "_law_layers" (defArgs s_law_layers) (defBody s_law_layers) (defScope s_law_layers) .none kV18 dc18 pm18 an18 cd18 ct18), sl18⟩) (c18 : PySem.W.codeIn K cd18 "_law_layers" = true) (k18 : PySem.W.keepIn K (.ref f18) = true)
    {f19 : Addr} {od19 an19 : Option Addr} {sl19 : Array (Option Value)} {oc19 kV19 dc19 pm19 cd19 ct19 : Value} (a19 : PySem.W.nsIn K mainGlobals "_law_turns" = some (some (.ref f19)))
    (l19 : K.lookup f19 = some ⟨oc19, od19, .func (PySem.W.fnOf "_law_turns" "_law_turns" (defArgs s_law_turns) (defBody s_law_turns) (defScope s_law_turns) .none kV19 dc19 pm19 an19 cd19 ct19), sl19⟩) (c19 : PySem.W.codeIn K cd19 "_law_turns" = true) (k19 : PySem.W.keepIn K (.ref f19) = true)
    {f20 : Addr} {od20 an20 : Option Addr} {sl20 : Array (Option Value)} {oc20 kV20 dc20 pm20 cd20 ct20 : Value} (a20 : PySem.W.nsIn K mainGlobals "_law_affine" = some (some (.ref f20)))
    (l20 : K.lookup f20 = some ⟨oc20, od20, .func (PySem.W.fnOf "_law_affine" "_law_affine" (defArgs s_law_affine) (defBody s_law_affine) (defScope s_law_affine) .none kV20 dc20 pm20 an20 cd20 ct20), sl20⟩) (c20 : PySem.W.codeIn K cd20 "_law_affine" = true) (k20 : PySem.W.keepIn K (.ref f20) = true)
    {f21 : Addr} {od21 an21 : Option Addr} {sl21 : Array (Option Value)} {oc21 kV21 dc21 pm21 cd21 ct21 : Value} (a21 : PySem.W.nsIn K mainGlobals "_law_signed" = some (some (.ref f21)))
    (l21 : K.lookup f21 = some ⟨oc21, od21, .func (PySem.W.fnOf "_law_signed" "_law_signed" (defArgs s_law_signed) (defBody s_law_signed) (defScope s_law_signed) .none kV21 dc21 pm21 an21 cd21 ct21), sl21⟩) (c21 : PySem.W.codeIn K cd21 "_law_signed" = true) (k21 : PySem.W.keepIn K (.ref f21) = true)
    {f22 : Addr} {od22 an22 : Option Addr} {sl22 : Array (Option Value)} {oc22 kV22 dc22 pm22 cd22 ct22 : Value} (a22 : PySem.W.nsIn K mainGlobals "_law_regular" = some (some (.ref f22)))
    (l22 : K.lookup f22 = some ⟨oc22, od22, .func (PySem.W.fnOf "_law_regular" "_law_regular" (defArgs s_law_regular) (defBody s_law_regular) (defScope s_law_regular) .none kV22 dc22 pm22 an22 cd22 ct22), sl22⟩) (c22 : PySem.W.codeIn K cd22 "_law_regular" = true) (k22 : PySem.W.keepIn K (.ref f22) = true)
    {f23 : Addr} {od23 an23 : Option Addr} {sl23 : Array (Option Value)} {oc23 kV23 dc23 pm23 cd23 ct23 : Value} (a23 : PySem.W.nsIn K mainGlobals "_law_renumbered" = some (some (.ref f23)))
    (l23 : K.lookup f23 = some ⟨oc23, od23, .func (PySem.W.fnOf "_law_renumbered" "_law_renumbered" (defArgs s_law_renumbered) (defBody s_law_renumbered) (defScope s_law_renumbered) .none kV23 dc23 pm23 an23 cd23 ct23), sl23⟩) (c23 : PySem.W.codeIn K cd23 "_law_renumbered" = true) (k23 : PySem.W.keepIn K (.ref f23) = true)
    {f24 : Addr} {od24 an24 : Option Addr} {sl24 : Array (Option Value)} {oc24 kV24 dc24 pm24 cd24 ct24 : Value} (a24 : PySem.W.nsIn K mainGlobals "_law_drawn" = some (some (.ref f24)))
    (l24 : K.lookup f24 = some ⟨oc24, od24, .func (PySem.W.fnOf "_law_drawn" "_law_drawn" (defArgs s_law_drawn) (defBody s_law_drawn) (defScope s_law_drawn) .none kV24 dc24 pm24 an24 cd24 ct24), sl24⟩) (c24 : PySem.W.codeIn K cd24 "_law_drawn" = true) (k24 : PySem.W.keepIn K (.ref f24) = true)
    {f25 : Addr} {od25 an25 : Option Addr} {sl25 : Array (Option Value)} {oc25 kV25 dc25 pm25 cd25 ct25 : Value} (a25 : PySem.W.nsIn K mainGlobals "_law_same" = some (some (.ref f25)))
    (l25 : K.lookup f25 = some ⟨oc25, od25, .func (PySem.W.fnOf "_law_same" "_law_same" (defArgs s_law_same) (defBody s_law_same) (defScope s_law_same) .none kV25 dc25 pm25 an25 cd25 ct25), sl25⟩) (c25 : PySem.W.codeIn K cd25 "_law_same" = true) (k25 : PySem.W.keepIn K (.ref f25) = true)
    {f26 : Addr} {od26 an26 : Option Addr} {sl26 : Array (Option Value)} {oc26 kV26 dc26 pm26 cd26 ct26 : Value} (a26 : PySem.W.nsIn K mainGlobals "_law_handed" = some (some (.ref f26)))
    (l26 : K.lookup f26 = some ⟨oc26, od26, .func (PySem.W.fnOf "_law_handed" "_law_handed" (defArgs s_law_handed) (defBody s_law_handed) (defScope s_law_handed) .none kV26 dc26 pm26 an26 cd26 ct26), sl26⟩) (c26 : PySem.W.codeIn K cd26 "_law_handed" = true) (k26 : PySem.W.keepIn K (.ref f26) = true)
    {f27 : Addr} {od27 an27 : Option Addr} {sl27 : Array (Option Value)} {oc27 kV27 dc27 pm27 cd27 ct27 : Value} (a27 : PySem.W.nsIn K mainGlobals "_law_left" = some (some (.ref f27)))
    (l27 : K.lookup f27 = some ⟨oc27, od27, .func (PySem.W.fnOf "_law_left" "_law_left" (defArgs s_law_left) (defBody s_law_left) (defScope s_law_left) .none kV27 dc27 pm27 an27 cd27 ct27), sl27⟩) (c27 : PySem.W.codeIn K cd27 "_law_left" = true) (k27 : PySem.W.keepIn K (.ref f27) = true)
    {f28 : Addr} {od28 an28 : Option Addr} {sl28 : Array (Option Value)} {oc28 kV28 dc28 pm28 cd28 ct28 : Value} (a28 : PySem.W.nsIn K mainGlobals "_law_added" = some (some (.ref f28)))
    (l28 : K.lookup f28 = some ⟨oc28, od28, .func (PySem.W.fnOf "_law_added" "_law_added" (defArgs s_law_added) (defBody s_law_added) (defScope s_law_added) .none kV28 dc28 pm28 an28 cd28 ct28), sl28⟩) (c28 : PySem.W.codeIn K cd28 "_law_added" = true) (k28 : PySem.W.keepIn K (.ref f28) = true)
    {f29 : Addr} {od29 an29 : Option Addr} {sl29 : Array (Option Value)} {oc29 kV29 dc29 pm29 cd29 ct29 : Value} (a29 : PySem.W.nsIn K mainGlobals "_law_chain" = some (some (.ref f29)))
    (l29 : K.lookup f29 = some ⟨oc29, od29, .func (PySem.W.fnOf "_law_chain" "_law_chain" (defArgs s_law_chain) (defBody s_law_chain) (defScope s_law_chain) .none kV29 dc29 pm29 an29 cd29 ct29), sl29⟩) (c29 : PySem.W.codeIn K cd29 "_law_chain" = true) (k29 : PySem.W.keepIn K (.ref f29) = true)
    {f30 : Addr} {od30 an30 : Option Addr} {sl30 : Array (Option Value)} {oc30 kV30 dc30 pm30 cd30 ct30 : Value} (a30 : PySem.W.nsIn K mainGlobals "_law_is_tables" = some (some (.ref f30)))
    (l30 : K.lookup f30 = some ⟨oc30, od30, .func (PySem.W.fnOf "_law_is_tables" "_law_is_tables" (defArgs s_law_is_tables) (defBody s_law_is_tables) (defScope s_law_is_tables) .none kV30 dc30 pm30 an30 cd30 ct30), sl30⟩) (c30 : PySem.W.codeIn K cd30 "_law_is_tables" = true) (k30 : PySem.W.keepIn K (.ref f30) = true)
    {f31 : Addr} {od31 an31 : Option Addr} {sl31 : Array (Option Value)} {oc31 kV31 dc31 pm31 cd31 ct31 : Value} (a31 : PySem.W.nsIn K mainGlobals "_law_asks" = some (some (.ref f31)))
    (l31 : K.lookup f31 = some ⟨oc31, od31, .func (PySem.W.fnOf "_law_asks" "_law_asks" (defArgs s_law_asks) (defBody s_law_asks) (defScope s_law_asks) .none kV31 dc31 pm31 an31 cd31 ct31), sl31⟩) (c31 : PySem.W.codeIn K cd31 "_law_asks" = true) (k31 : PySem.W.keepIn K (.ref f31) = true)
    {f32 : Addr} {od32 an32 : Option Addr} {sl32 : Array (Option Value)} {oc32 kV32 dc32 pm32 cd32 ct32 : Value} (a32 : PySem.W.nsIn K mainGlobals "law" = some (some (.ref f32)))
    (l32 : K.lookup f32 = some ⟨oc32, od32, .func (PySem.W.fnOf "law" "law" (defArgs s_law) (defBody s_law) (defScope s_law) .none kV32 dc32 pm32 an32 cd32 ct32), sl32⟩) (c32 : PySem.W.codeIn K cd32 "law" = true) (k32 : PySem.W.keepIn K (.ref f32) = true)
    (z0 : PySem.W.nsIn K mainGlobals "len" = some none) (z1 : PySem.W.nsIn K mainGlobals "int" = some none) (z2 : PySem.W.nsIn K mainGlobals "abs" = some none) (z3 : PySem.W.nsIn K mainGlobals "tuple" = some none) (z4 : PySem.W.nsIn K mainGlobals "list" = some none) (z5 : PySem.W.nsIn K mainGlobals "sorted" = some none) (z6 : PySem.W.nsIn K mainGlobals "sum" = some none) (z7 : PySem.W.nsIn K mainGlobals "min" = some none) (z8 : PySem.W.nsIn K mainGlobals "max" = some none) (z9 : PySem.W.nsIn K mainGlobals "all" = some none) (z10 : PySem.W.nsIn K mainGlobals "repr" = some none) (z11 : PySem.W.nsIn K mainGlobals "range" = some none) (z12 : PySem.W.nsIn K mainGlobals "isinstance" = some none) (z13 : PySem.W.nsIn K mainGlobals "bool" = some none) (z14 : PySem.W.nsIn K mainGlobals "str" = some none) :
    ∃ fd : FuncData, (∀ (s : Shared) (v : Value), BindsTo s fd ⟨[v], []⟩ [("script", v)]) ∧ ∀ base : Heap, K.In base → base.Ns mainGlobals mg → FnG l.prog w K mg base 35 fa fd ["script"] (spD K (spT 63)) := by
  have e := hfa.symm.trans (PySem.W.mg_of X G a32)
  cases e
  have hbn : ∀ y ∈ bnames, mg y = none := fun y hy => by
    simp only [bnames, List.mem_cons, List.not_mem_nil, or_false] at hy
    rcases hy with rfl | rfl | rfl | rfl | rfl | rfl | rfl | rfl | rfl | rfl | rfl | rfl | rfl | rfl | rfl
    · exact PySem.W.mg_none_of X G z0
    · exact PySem.W.mg_none_of X G z1
    · exact PySem.W.mg_none_of X G z2
    · exact PySem.W.mg_none_of X G z3
    · exact PySem.W.mg_none_of X G z4
    · exact PySem.W.mg_none_of X G z5
    · exact PySem.W.mg_none_of X G z6
    · exact PySem.W.mg_none_of X G z7
    · exact PySem.W.mg_none_of X G z8
    · exact PySem.W.mg_none_of X G z9
    · exact PySem.W.mg_none_of X G z10
    · exact PySem.W.mg_none_of X G z11
    · exact PySem.W.mg_none_of X G z12
    · exact PySem.W.mg_none_of X G z13
    · exact PySem.W.mg_none_of X G z14
  have F0 := fun_mk (st := s_frozen) l0 c0 k0
  have F1 := fun_mk (st := s_identity) l1 c1 k1
  have F2 := fun_mk (st := s_compose) l2 c2 k2
  have F3 := fun_mk (st := s_inverse) l3 c3 k3
  have F4 := fun_mk (st := s_closure) l4 c4 k4
  have F5 := fun_mk (st := s_generated) l5 c5 k5
  have F6 := fun_mk (st := s_stabilizer) l6 c6 k6
  have F7 := fun_mk (st := s_doubling_member) l7 c7 k7
  have F8 := fun_mk (st := s_halving_steps) l8 c8 k8
  have F9 := fun_mk (st := s_halving_chain) l9 c9 k9
  have F10 := fun_mk (st := s_law_whole) l10 c10 k10
  have F11 := fun_mk (st := s_law_cell) l11 c11 k11
  have F12 := fun_mk (st := s_law_digits) l12 c12 k12
  have F13 := fun_mk (st := s_law_gcd) l13 c13 k13
  have F14 := fun_mk (st := s_law_compose) l14 c14 k14
  have F15 := fun_mk (st := s_law_closed) l15 c15 k15
  have F16 := fun_mk (st := s_law_accepted) l16 c16 k16
  have F17 := fun_mk (st := s_law_shuffled) l17 c17 k17
  have F18 := fun_mk (st := s_law_layers) l18 c18 k18
  have F19 := fun_mk (st := s_law_turns) l19 c19 k19
  have F20 := fun_mk (st := s_law_affine) l20 c20 k20
  have F21 := fun_mk (st := s_law_signed) l21 c21 k21
  have F22 := fun_mk (st := s_law_regular) l22 c22 k22
  have F23 := fun_mk (st := s_law_renumbered) l23 c23 k23
  have F24 := fun_mk (st := s_law_drawn) l24 c24 k24
  have F25 := fun_mk (st := s_law_same) l25 c25 k25
  have F26 := fun_mk (st := s_law_handed) l26 c26 k26
  have F27 := fun_mk (st := s_law_left) l27 c27 k27
  have F28 := fun_mk (st := s_law_added) l28 c28 k28
  have F29 := fun_mk (st := s_law_chain) l29 c29 k29
  have F30 := fun_mk (st := s_law_is_tables) l30 c30 k30
  have F31 := fun_mk (st := s_law_asks) l31 c31 k31
  have F32 := fun_mk (st := s_law) l32 c32 k32
  refine ⟨PySem.W.fnOf "law" "law" (defArgs s_law) (defBody s_law) (defScope s_law) .none kV32 dc32 pm32 an32 cd32 ct32, fun s v => .of_eq rfl, fun base _ _ => ?_⟩
  have q0 : Ks l.prog w K mg base fns 0 [] := fun i S z => nomatch z
  have q1 : Ks l.prog w K mg base fns 3 [S_frozen 3] := ks_rec (T := t_frozen) (S := S_frozen) (Γ := []) F0 sc_frozen (PySem.W.mg_of X G a0) (F0.binds (fun _ _ _ _ _ _ us hl => match us, hl with | [_], _ => rfl)) hbn rfl rfl q0 (fun as R h => by obtain ⟨_, _, _, h, _⟩ := h; exact h) (fun n k X g fn => b_frozen g fn rfl) w_frozen 3
  have q2 : Ks l.prog w K mg base fns 4 [S_frozen 3, S_identity] := ks_step (T := t_identity) F1 sc_identity (PySem.W.mg_of X G a1) (F1.binds (fun _ _ _ _ _ _ us hl => match us, hl with | [_], _ => rfl)) hbn rfl rfl q1 (fun X g fn => b_identity g fn rfl) (w_identity)
  have q3 : Ks l.prog w K mg base fns 5 [S_frozen 3, S_identity, S_compose] := ks_step (T := t_compose) F2 sc_compose (PySem.W.mg_of X G a2) (F2.binds (fun _ _ _ _ _ _ us hl => match us, hl with | [_, _], _ => rfl)) hbn rfl rfl q2 (fun X g fn => b_compose g fn rfl) (w_compose)
  have q4 : Ks l.prog w K mg base fns 6 [S_frozen 3, S_identity, S_compose, S_inverse] := ks_step (T := t_inverse) F3 sc_inverse (PySem.W.mg_of X G a3) (F3.binds (fun _ _ _ _ _ _ us hl => match us, hl with | [_], _ => rfl)) hbn rfl rfl q3 (fun X g fn => b_inverse g fn rfl) (w_inverse)
  have q5 : Ks l.prog w K mg base fns 7 [S_frozen 3, S_identity, S_compose, S_inverse, S_closure] := ks_step (T := t_closure) F4 sc_closure (PySem.W.mg_of X G a4) (F4.binds (fun _ _ _ _ _ _ us hl => match us, hl with | [_, _], _ => rfl)) hbn rfl rfl q4 (fun X g fn => b_closure g fn rfl) (w_closure (S_frozen 3) S_inverse)
  have q6 : Ks l.prog w K mg base fns 8 [S_frozen 3, S_identity, S_compose, S_inverse, S_closure, S_generatedT] := ks_step (T := t_generated) F5 sc_generated (PySem.W.mg_of X G a5) (F5.binds (fun _ _ _ _ _ _ us hl => match us, hl with | [_, _], _ => rfl)) hbn rfl rfl q5 (fun X g fn => b_generated g fn rfl) (w_generatedT (S_frozen 3) S_inverse)
  have q7 : Ks l.prog w K mg base fns 9 [S_frozen 3, S_identity, S_compose, S_inverse, S_closure, S_generatedT, S_stab] := ks_step (T := t_stabilizer) F6 sc_stabilizer (PySem.W.mg_of X G a6) (F6.binds (fun _ _ _ _ _ _ us hl => match us, hl with | [_, _], _ => rfl)) hbn rfl rfl q6 (fun X g fn => b_stabilizer g fn rfl) (w_stab)
  have q8 : Ks l.prog w K mg base fns 10 [S_frozen 3, S_identity, S_compose, S_inverse, S_closure, S_generatedT, S_stab, S_doubling] := ks_step (T := t_doubling_member) F7 sc_doubling_member (PySem.W.mg_of X G a7) (F7.binds (fun _ _ _ _ _ _ us hl => match us, hl with | [_, _], _ => rfl)) hbn rfl rfl q7 (fun X g fn => b_doubling_member g fn rfl) (w_doubling (S_frozen 3) S_identity [S_closure, S_generatedT, S_stab])
  have q9 : Ks l.prog w K mg base fns 11 [S_frozen 3, S_identity, S_compose, S_inverse, S_closure, S_generatedT, S_stab, S_doubling, S_hsteps] := ks_step (T := t_halving_steps) F8 sc_halving_steps (PySem.W.mg_of X G a8) (F8.binds (fun _ _ _ _ _ _ us hl => match us, hl with | [_, _], _ => rfl)) hbn rfl rfl q8 (fun X g fn => b_halving_steps g fn rfl) (w_hsteps)
  have q10 : Ks l.prog w K mg base fns 12 [S_frozen 3, S_identity, S_compose, S_inverse, S_closure, S_generatedT, S_stab, S_doubling, S_hsteps, S_hchain] := ks_step (T := t_halving_chain) F9 sc_halving_chain (PySem.W.mg_of X G a9) (F9.binds (fun _ _ _ _ _ _ us hl => match us, hl with | [_, _], _ => rfl)) hbn rfl rfl q9 (fun X g fn => b_halving_chain g fn rfl) (w_hchain)
  have q11 : Ks l.prog w K mg base fns 13 [S_frozen 3, S_identity, S_compose, S_inverse, S_closure, S_generatedT, S_stab, S_doubling, S_hsteps, S_hchain, S_whole] := ks_step (T := t_law_whole) F10 sc_law_whole (PySem.W.mg_of X G a10) (F10.binds (fun _ _ _ _ _ _ us hl => match us, hl with | [_], _ => rfl)) hbn rfl rfl q10 (fun X g fn => b_law_whole g fn rfl) (w_whole)
  have q12 : Ks l.prog w K mg base fns 14 [S_frozen 3, S_identity, S_compose, S_inverse, S_closure, S_generatedT, S_stab, S_doubling, S_hsteps, S_hchain, S_whole, S_cell] := ks_step (T := t_law_cell) F11 sc_law_cell (PySem.W.mg_of X G a11) (F11.binds (fun _ _ _ _ _ _ us hl => match us, hl with | [_, _], _ => rfl)) hbn rfl rfl q11 (fun X g fn => b_law_cell g fn rfl) (w_cell)
  have q13 : Ks l.prog w K mg base fns 15 [S_frozen 3, S_identity, S_compose, S_inverse, S_closure, S_generatedT, S_stab, S_doubling, S_hsteps, S_hchain, S_whole, S_cell, S_digits] := ks_step (T := t_law_digits) F12 sc_law_digits (PySem.W.mg_of X G a12) (F12.binds (fun _ _ _ _ _ _ us hl => match us, hl with | [_, _], _ => rfl)) hbn rfl rfl q12 (fun X g fn => b_law_digits g fn rfl) (w_digits)
  have q14 : Ks l.prog w K mg base fns 16 [S_frozen 3, S_identity, S_compose, S_inverse, S_closure, S_generatedT, S_stab, S_doubling, S_hsteps, S_hchain, S_whole, S_cell, S_digits, S_gcd] := ks_step (T := t_law_gcd) F13 sc_law_gcd (PySem.W.mg_of X G a13) (F13.binds (fun _ _ _ _ _ _ us hl => match us, hl with | [_, _], _ => rfl)) hbn rfl rfl q13 (fun X g fn => b_law_gcd g fn rfl) (w_gcd)
  have q15 : Ks l.prog w K mg base fns 17 [S_frozen 3, S_identity, S_compose, S_inverse, S_closure, S_generatedT, S_stab, S_doubling, S_hsteps, S_hchain, S_whole, S_cell, S_digits, S_gcd, S_compose] := ks_step (T := t_law_compose) F14 sc_law_compose (PySem.W.mg_of X G a14) (F14.binds (fun _ _ _ _ _ _ us hl => match us, hl with | [_, _], _ => rfl)) hbn rfl rfl q14 (fun X g fn => b_law_compose g fn rfl) (w_law_compose)
  have q16 : Ks l.prog w K mg base fns 18 [S_frozen 3, S_identity, S_compose, S_inverse, S_closure, S_generatedT, S_stab, S_doubling, S_hsteps, S_hchain, S_whole, S_cell, S_digits, S_gcd, S_compose, S_closed] := ks_step (T := t_law_closed) F15 sc_law_closed (PySem.W.mg_of X G a15) (F15.binds (fun _ _ _ _ _ _ us hl => match us, hl with | [_, _, _], _ => rfl)) hbn rfl rfl q15 (fun X g fn => b_law_closed g fn rfl) (w_closed rfl)
  have q17 : Ks l.prog w K mg base fns 19 [S_frozen 3, S_identity, S_compose, S_inverse, S_closure, S_generatedT, S_stab, S_doubling, S_hsteps, S_hchain, S_whole, S_cell, S_digits, S_gcd, S_compose, S_closed, S_accepted] := ks_step (T := t_law_accepted) F16 sc_law_accepted (PySem.W.mg_of X G a16) (F16.binds (fun _ _ _ _ _ _ us hl => match us, hl with | [_, _, _], _ => rfl)) hbn rfl rfl q16 (fun X g fn => b_law_accepted g fn rfl) (w_accepted rfl)
  have q18 : Ks l.prog w K mg base fns 20 [S_frozen 3, S_identity, S_compose, S_inverse, S_closure, S_generatedT, S_stab, S_doubling, S_hsteps, S_hchain, S_whole, S_cell, S_digits, S_gcd, S_compose, S_closed, S_accepted, S_shuf] := ks_step (T := t_law_shuffled) F17 sc_law_shuffled (PySem.W.mg_of X G a17) (F17.binds (fun _ _ _ _ _ _ us hl => match us, hl with | [_, _], _ => rfl)) hbn rfl rfl q17 (fun X g fn => b_law_shuffled g fn rfl) (w_shuf _ rfl)
  have q19 : Ks l.prog w K mg base fns 21 [S_frozen 3, S_identity, S_compose, S_inverse, S_closure, S_generatedT, S_stab, S_doubling, S_hsteps, S_hchain, S_whole, S_cell, S_digits, S_gcd, S_compose, S_closed, S_accepted, S_shuf, S_layers] := ks_step (T := t_law_layers) F18 sc_law_layers (PySem.W.mg_of X G a18) (F18.binds (fun _ _ _ _ _ _ us hl => match us, hl with | [_, _], _ => rfl)) hbn rfl rfl q18 (fun X g fn => b_law_layers g fn rfl) (w_layers rfl)
  have q20 : Ks l.prog w K mg base fns 22 [S_frozen 3, S_identity, S_compose, S_inverse, S_closure, S_generatedT, S_stab, S_doubling, S_hsteps, S_hchain, S_whole, S_cell, S_digits, S_gcd, S_compose, S_closed, S_accepted, S_shuf, S_layers, S_turns] := ks_step (T := t_law_turns) F19 sc_law_turns (PySem.W.mg_of X G a19) (F19.binds (fun _ _ _ _ _ _ us hl => match us, hl with | [_, _], _ => rfl)) hbn rfl rfl q19 (fun X g fn => b_law_turns g fn rfl) (w_turns rfl)
  have q21 : Ks l.prog w K mg base fns 23 [S_frozen 3, S_identity, S_compose, S_inverse, S_closure, S_generatedT, S_stab, S_doubling, S_hsteps, S_hchain, S_whole, S_cell, S_digits, S_gcd, S_compose, S_closed, S_accepted, S_shuf, S_layers, S_turns, S_aff] := ks_step (T := t_law_affine) F20 sc_law_affine (PySem.W.mg_of X G a20) (F20.binds (fun _ _ _ _ _ _ us hl => match us, hl with | [_, _], _ => rfl)) hbn rfl rfl q20 (fun X g fn => b_law_affine g fn rfl) (w_aff _ rfl rfl)
  have q22 : Ks l.prog w K mg base fns 24 [S_frozen 3, S_identity, S_compose, S_inverse, S_closure, S_generatedT, S_stab, S_doubling, S_hsteps, S_hchain, S_whole, S_cell, S_digits, S_gcd, S_compose, S_closed, S_accepted, S_shuf, S_layers, S_turns, S_aff, S_signed] := ks_step (T := t_law_signed) F21 sc_law_signed (PySem.W.mg_of X G a21) (F21.binds (fun _ _ _ _ _ _ us hl => match us, hl with | [_], _ => rfl)) hbn rfl rfl q21 (fun X g fn => b_law_signed g fn rfl) (w_signed rfl)
  have q23 : Ks l.prog w K mg base fns 25 [S_frozen 3, S_identity, S_compose, S_inverse, S_closure, S_generatedT, S_stab, S_doubling, S_hsteps, S_hchain, S_whole, S_cell, S_digits, S_gcd, S_compose, S_closed, S_accepted, S_shuf, S_layers, S_turns, S_aff, S_signed, S_regular] := ks_step (T := t_law_regular) F22 sc_law_regular (PySem.W.mg_of X G a22) (F22.binds (fun _ _ _ _ _ _ us hl => match us, hl with | [_], _ => rfl)) hbn rfl rfl q22 (fun X g fn => b_law_regular g fn rfl) (w_regular rfl rfl)
  have q24 : Ks l.prog w K mg base fns 26 [S_frozen 3, S_identity, S_compose, S_inverse, S_closure, S_generatedT, S_stab, S_doubling, S_hsteps, S_hchain, S_whole, S_cell, S_digits, S_gcd, S_compose, S_closed, S_accepted, S_shuf, S_layers, S_turns, S_aff, S_signed, S_regular, S_renum2] := ks_step (T := t_law_renumbered) F23 sc_law_renumbered (PySem.W.mg_of X G a23) (F23.binds (fun _ _ _ _ _ _ us hl => match us, hl with | [_, _], _ => rfl)) hbn rfl rfl q23 (fun X g fn => b_law_renumbered g fn rfl) (w_renum)
  have q25 : Ks l.prog w K mg base fns 27 [S_frozen 3, S_identity, S_compose, S_inverse, S_closure, S_generatedT, S_stab, S_doubling, S_hsteps, S_hchain, S_whole, S_cell, S_digits, S_gcd, S_compose, S_closed, S_accepted, S_shuf, S_layers, S_turns, S_aff, S_signed, S_regular, S_renum2, S_drawn] := ks_step (T := t_law_drawn) F24 sc_law_drawn (PySem.W.mg_of X G a24) (F24.binds (fun _ _ _ _ _ _ us hl => match us, hl with | [_], _ => rfl)) hbn rfl rfl q24 (fun X g fn => b_law_drawn g fn rfl) (w_drawn rfl rfl rfl rfl rfl rfl rfl rfl rfl)
  have q26 : Ks l.prog w K mg base fns 28 [S_frozen 3, S_identity, S_compose, S_inverse, S_closure, S_generatedT, S_stab, S_doubling, S_hsteps, S_hchain, S_whole, S_cell, S_digits, S_gcd, S_compose, S_closed, S_accepted, S_shuf, S_layers, S_turns, S_aff, S_signed, S_regular, S_renum2, S_drawn, S_same] := ks_step (T := t_law_same) F25 sc_law_same (PySem.W.mg_of X G a25) (F25.binds (fun _ _ _ _ _ _ us hl => match us, hl with | [_, _], _ => rfl)) hbn rfl rfl q25 (fun X g fn => b_law_same g fn rfl) (w_same)
  have q27 : Ks l.prog w K mg base fns 29 [S_frozen 3, S_identity, S_compose, S_inverse, S_closure, S_generatedT, S_stab, S_doubling, S_hsteps, S_hchain, S_whole, S_cell, S_digits, S_gcd, S_compose, S_closed, S_accepted, S_shuf, S_layers, S_turns, S_aff, S_signed, S_regular, S_renum2, S_drawn, S_same, S_handed] := ks_step (T := t_law_handed) F26 sc_law_handed (PySem.W.mg_of X G a26) (F26.binds (fun _ _ _ _ _ _ us hl => match us, hl with | [_, _], _ => rfl)) hbn rfl rfl q26 (fun X g fn => b_law_handed g fn rfl) (w_handed)
  have q28 : Ks l.prog w K mg base fns 30 [S_frozen 3, S_identity, S_compose, S_inverse, S_closure, S_generatedT, S_stab, S_doubling, S_hsteps, S_hchain, S_whole, S_cell, S_digits, S_gcd, S_compose, S_closed, S_accepted, S_shuf, S_layers, S_turns, S_aff, S_signed, S_regular, S_renum2, S_drawn, S_same, S_handed, S_left] := ks_step (T := t_law_left) F27 sc_law_left (PySem.W.mg_of X G a27) (F27.binds (fun _ _ _ _ _ _ us hl => match us, hl with | [_, _], _ => rfl)) hbn rfl rfl q27 (fun X g fn => b_law_left g fn rfl) (w_left rfl)
  have q29 : Ks l.prog w K mg base fns 31 [S_frozen 3, S_identity, S_compose, S_inverse, S_closure, S_generatedT, S_stab, S_doubling, S_hsteps, S_hchain, S_whole, S_cell, S_digits, S_gcd, S_compose, S_closed, S_accepted, S_shuf, S_layers, S_turns, S_aff, S_signed, S_regular, S_renum2, S_drawn, S_same, S_handed, S_left, S_added] := ks_step (T := t_law_added) F28 sc_law_added (PySem.W.mg_of X G a28) (F28.binds (fun _ _ _ _ _ _ us hl => match us, hl with | [_, _], _ => rfl)) hbn rfl rfl q28 (fun X g fn => b_law_added g fn rfl) (w_added rfl rfl)
  have q30 : Ks l.prog w K mg base fns 32 [S_frozen 3, S_identity, S_compose, S_inverse, S_closure, S_generatedT, S_stab, S_doubling, S_hsteps, S_hchain, S_whole, S_cell, S_digits, S_gcd, S_compose, S_closed, S_accepted, S_shuf, S_layers, S_turns, S_aff, S_signed, S_regular, S_renum2, S_drawn, S_same, S_handed, S_left, S_added, S_chain] := ks_step (T := t_law_chain) F29 sc_law_chain (PySem.W.mg_of X G a29) (F29.binds (fun _ _ _ _ _ _ us hl => match us, hl with | [_, _], _ => rfl)) hbn rfl rfl q29 (fun X g fn => b_law_chain g fn rfl) (w_chain rfl rfl)
  have q31 : Ks l.prog w K mg base fns 33 [S_frozen 3, S_identity, S_compose, S_inverse, S_closure, S_generatedT, S_stab, S_doubling, S_hsteps, S_hchain, S_whole, S_cell, S_digits, S_gcd, S_compose, S_closed, S_accepted, S_shuf, S_layers, S_turns, S_aff, S_signed, S_regular, S_renum2, S_drawn, S_same, S_handed, S_left, S_added, S_chain, S_istab] := ks_step (T := t_law_is_tables) F30 sc_law_is_tables (PySem.W.mg_of X G a30) (F30.binds (fun _ _ _ _ _ _ us hl => match us, hl with | [_, _], _ => rfl)) hbn rfl rfl q30 (fun X g fn => b_law_is_tables g fn rfl) (w_istab rfl)
  have q32 : Ks l.prog w K mg base fns 34 [S_frozen 3, S_identity, S_compose, S_inverse, S_closure, S_generatedT, S_stab, S_doubling, S_hsteps, S_hchain, S_whole, S_cell, S_digits, S_gcd, S_compose, S_closed, S_accepted, S_shuf, S_layers, S_turns, S_aff, S_signed, S_regular, S_renum2, S_drawn, S_same, S_handed, S_left, S_added, S_chain, S_istab, S_asks] := ks_step (T := t_law_asks) F31 sc_law_asks (PySem.W.mg_of X G a31) (F31.binds (fun _ _ _ _ _ _ us hl => match us, hl with | [_, _, _], _ => rfl)) hbn rfl rfl q31 (fun X g fn => b_law_asks g fn rfl) (w_asks rfl rfl rfl rfl rfl)
  exact def_g (T := t_law) F32 sc_law hbn q32 (fun X g fn => b_law g fn rfl) (w_law 63 rfl rfl rfl rfl rfl rfl rfl)
end K45
open PySem PySem.W PyProof.Rows
set_option maxHeartbeats 0 in
theorem PySem.Challenge.cw_leastnest_k45_halving_chain_whole_holds : PySem.Challenge.rw_leastnest_k45_halving_chain_whole.Holds := by
  w_on; o_law; k_head; (case hw => w_witness2)
  k_fill
  refine Ir.walk_g (l := PySem.Challenge.rw_leastnest_k45_halving_chain_whole) (n := 63) (k := 35) (x := "script") rfl (by decide) rfl ⟨rfl, by decide, by decide⟩ (fun w h Y => PySem.W.kIn_of Y) ?F
  case F =>
    intro w mg fa h KX G hmg
    refine' K45.all_mk KX G hmg ?a0 ?l0 ?c0 ?k0 ?a1 ?l1 ?c1 ?k1 ?a2 ?l2 ?c2 ?k2 ?a3 ?l3 ?c3 ?k3 ?a4 ?l4 ?c4 ?k4 ?a5 ?l5 ?c5 ?k5 ?a6 ?l6 ?c6 ?k6 ?a7 ?l7 ?c7 ?k7 ?a8 ?l8 ?c8 ?k8 ?a9 ?l9 ?c9 ?k9 ?a10 ?l10 ?c10 ?k10 ?a11 ?l11 ?c11 ?k11 ?a12 ?l12 ?c12 ?k12 ?a13 ?l13 ?c13 ?k13 ?a14 ?l14 ?c14 ?k14 ?a15 ?l15 ?c15 ?k15 ?a16 ?l16 ?c16 ?k16 ?a17 ?l17 ?c17 ?k17 ?a18 ?l18 ?c18 ?k18 ?a19 ?l19 ?c19 ?k19 ?a20 ?l20 ?c20 ?k20 ?a21 ?l21 ?c21 ?k21 ?a22 ?l22 ?c22 ?k22 ?a23 ?l23 ?c23 ?k23 ?a24 ?l24 ?c24 ?k24 ?a25 ?l25 ?c25 ?k25 ?a26 ?l26 ?c26 ?k26 ?a27 ?l27 ?c27 ?k27 ?a28 ?l28 ?c28 ?k28 ?a29 ?l29 ?c29 ?k29 ?a30 ?l30 ?c30 ?k30 ?a31 ?l31 ?c31 ?k31 ?a32 ?l32 ?c32 ?k32 ?z0 ?z1 ?z2 ?z3 ?z4 ?z5 ?z6 ?z7 ?z8 ?z9 ?z10 ?z11 ?z12 ?z13 ?z14
    (case a0 => k_is); (case l0 => k_is); (case c0 => k_is); (case k0 => k_is)
    (case a1 => k_is); (case l1 => k_is); (case c1 => k_is); (case k1 => k_is)
    (case a2 => k_is); (case l2 => k_is); (case c2 => k_is); (case k2 => k_is)
    (case a3 => k_is); (case l3 => k_is); (case c3 => k_is); (case k3 => k_is)
    (case a4 => k_is); (case l4 => k_is); (case c4 => k_is); (case k4 => k_is)
    (case a5 => k_is); (case l5 => k_is); (case c5 => k_is); (case k5 => k_is)
    (case a6 => k_is); (case l6 => k_is); (case c6 => k_is); (case k6 => k_is)
    (case a7 => k_is); (case l7 => k_is); (case c7 => k_is); (case k7 => k_is)
    (case a8 => k_is); (case l8 => k_is); (case c8 => k_is); (case k8 => k_is)
    (case a9 => k_is); (case l9 => k_is); (case c9 => k_is); (case k9 => k_is)
    (case a10 => k_is); (case l10 => k_is); (case c10 => k_is); (case k10 => k_is)
    (case a11 => k_is); (case l11 => k_is); (case c11 => k_is); (case k11 => k_is)
    (case a12 => k_is); (case l12 => k_is); (case c12 => k_is); (case k12 => k_is)
    (case a13 => k_is); (case l13 => k_is); (case c13 => k_is); (case k13 => k_is)
    (case a14 => k_is); (case l14 => k_is); (case c14 => k_is); (case k14 => k_is)
    (case a15 => k_is); (case l15 => k_is); (case c15 => k_is); (case k15 => k_is)
    (case a16 => k_is); (case l16 => k_is); (case c16 => k_is); (case k16 => k_is)
    (case a17 => k_is); (case l17 => k_is); (case c17 => k_is); (case k17 => k_is)
    (case a18 => k_is); (case l18 => k_is); (case c18 => k_is); (case k18 => k_is)
    (case a19 => k_is); (case l19 => k_is); (case c19 => k_is); (case k19 => k_is)
    (case a20 => k_is); (case l20 => k_is); (case c20 => k_is); (case k20 => k_is)
    (case a21 => k_is); (case l21 => k_is); (case c21 => k_is); (case k21 => k_is)
    (case a22 => k_is); (case l22 => k_is); (case c22 => k_is); (case k22 => k_is)
    (case a23 => k_is); (case l23 => k_is); (case c23 => k_is); (case k23 => k_is)
    (case a24 => k_is); (case l24 => k_is); (case c24 => k_is); (case k24 => k_is)
    (case a25 => k_is); (case l25 => k_is); (case c25 => k_is); (case k25 => k_is)
    (case a26 => k_is); (case l26 => k_is); (case c26 => k_is); (case k26 => k_is)
    (case a27 => k_is); (case l27 => k_is); (case c27 => k_is); (case k27 => k_is)
    (case a28 => k_is); (case l28 => k_is); (case c28 => k_is); (case k28 => k_is)
    (case a29 => k_is); (case l29 => k_is); (case c29 => k_is); (case k29 => k_is)
    (case a30 => k_is); (case l30 => k_is); (case c30 => k_is); (case k30 => k_is)
    (case a31 => k_is); (case l31 => k_is); (case c31 => k_is); (case k31 => k_is)
    (case a32 => k_is); (case l32 => k_is); (case c32 => k_is); (case k32 => k_is)
    (case z0 => k_is)
    (case z1 => k_is)
    (case z2 => k_is)
    (case z3 => k_is)
    (case z4 => k_is)
    (case z5 => k_is)
    (case z6 => k_is)
    (case z7 => k_is)
    (case z8 => k_is)
    (case z9 => k_is)
    (case z10 => k_is)
    (case z11 => k_is)
    (case z12 => k_is)
    (case z13 => k_is)
    (case z14 => k_is)

