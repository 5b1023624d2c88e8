import PyProof.Rows.All
import PySem.Challenge.RW_lowpools_k20_whole_ways_in_trees
import Wide.All
import OpenK.AllK
import Wide.FinOn
import HandS.ForMost
import HandS.Exc
import HandS.ExcOwn
import HandS.ExcCtx
import HandS.WordsExc
import HandS.Walk
import HandS.Zip
import HandS.TupAny
import HandS.TupMul
import HandS.Lambda
import KE.SortData
import KE.DatumOrd
import KE.DataIsa
import KE.DataMinMax
import KE.DatumIndex
import KE.DataAny
import KE.SortUse
import HandS.IsInst
import KE.GoesEnum
import KE.GoesMore
import HandS.HotCalls
import HandS.ExcIs
import HandS.EndTab
import HandS.Wide
import KE.DatumMoreOrd
import HandS.TupSets
import HandS.SortKw
import HandS.SetFor
import HandS.Strs
import HandS.NoneIn
import HandS.Style
import HandS.ExcValue
import HandS.OwnEq
import KE.DataEq
import HandS.Dict
import HandS.DictComp
import HandS.ForDict
import HandS.Conv
import PyProof.P3Eq
import KE.KDictKeyed
import KE.KeyNested
import KE.KDictPairs
import HandS.SetTxt0
import HandS.TupLe
import KE.KStateDown
import HandS.Defaults
import HandS.Head0
import HandS.Head1
import HandS.Head2
import HandS.HeadEnd
import HandS.HeadHook1
import HandS.HeadHook2
import HandS.HeadHook3
import HandS.HeadHook4
import HandS.HeadWalk
import KE.KNestM
set_option Elab.async false
set_option linter.all false
set_option maxRecDepth 100000
set_option maxHeartbeats 0
/-! DL1: values as data (PyData), the slots of a frame as data, expressions and statements that speak of data alone. -/
namespace DL
open PySem PySem.Spec PyProof.Rows L2

abbrev D := PyData

/-! ### heaps that grow -/
def Ex (H H' : Hp) : Prop := ∀ a o, H a = some o → H' a = some o
theorem Ex.refl (H : Hp) : Ex H H := fun _ _ h => h
theorem Ex.trans {H H1 H2 : Hp} (a : Ex H H1) (b : Ex H1 H2) : Ex H H2 := fun x o h => b x o (a x o h)
theorem Ex.back {H H' : Hp} (e : Ex H H') {a : Addr} (h : H' a = none) : H a = none := by
  cases q : H a with
  | none => rfl
  | some o => rw [e a o q] at h; cases h
theorem Ex.new {H : Hp} {p : Addr} {o : HO} (h : H p = none) : Ex H (upd H p o) := fun a u e => by
  rw [upd_ne (ne_of_none e h)]
  exact e
theorem Ex.upd2 {G H : Hp} (e : Ex G H) (p : Addr) (o : HO) : Ex (upd G p o) (upd H p o) := fun a u h => by
  by_cases q : a = p
  · subst q; rw [upd_same] at h ⊢; exact h
  · rw [upd_ne q] at h ⊢; exact e a u h
/-- an address that G does not know may change in H -/
theorem Ex.mut {G H : Hp} {p : Addr} {o : HO} (e : Ex G H) (h : G p = none) : Ex G (upd H p o) := fun a u ha => by
  rw [upd_ne (ne_of_none ha h)]
  exact e a u ha
theorem Ex.seqL {K : PySem.W.Frag} {H H' : Hp} {a : Addr} {xs : List V} (e : Ex H H') (h : SqL K H a xs) : SqL K H' a xs := by
  rcases h with (h | ⟨o, h⟩) | h
  · exact .inl (.inl (e _ _ h))
  · exact .inl (.inr ⟨o, e _ _ h⟩)
  · exact .inr h
theorem Ex.seqT {K : PySem.W.Frag} {H H' : Hp} {a : Addr} {xs : List V} (e : Ex H H') (h : SqT K H a xs) : SqT K H' a xs := by
  rcases h with (h | ⟨o, h⟩) | h
  · exact .inl (.inl (e _ _ h))
  · exact .inl (.inr ⟨o, e _ _ h⟩)
  · exact .inr h

/-- G: what is settled (never changed from now on); H: all. Both grow, G by new addresses alone -/
structure Ext (G H G2 H2 : Hp) : Prop where
  g : Ex G G2
  h : Ex H H2
  gh : Ex G2 H2
  nw : ∀ a o, G2 a = some o → G a = none → H a = none
  nt : ∀ a ps, G2 a = some (.tbl ps) → G a = some (.tbl ps)
theorem Ext.refl {G H : Hp} (e : Ex G H) : Ext G H G H := ⟨Ex.refl G, Ex.refl H, e, fun a o h n => (by rw [h] at n; cases n), fun _ _ h => h⟩
theorem Ext.trans {G H G1 H1 G2 H2 : Hp} (a : Ext G H G1 H1) (b : Ext G1 H1 G2 H2) : Ext G H G2 H2 := by
  refine ⟨a.g.trans b.g, a.h.trans b.h, b.gh, fun x o h n => ?_, fun x ps h => a.nt x ps (b.nt x ps h)⟩
  cases q : G1 x with
  | none => exact a.h.back (b.nw x o h q)
  | some u => exact a.nw x u q n
theorem upd_nt {G : Hp} {p a : Addr} {o : HO} {ps : Array Value} (ho : ∀ ps, o ≠ .tbl ps) (h : upd G p o a = some (.tbl ps)) : G a = some (.tbl ps) := by
  by_cases z : a = p
  · subst z; rw [upd_same] at h; exact absurd (Option.some.inj h) (ho ps)
  · rw [upd_ne z] at h; exact h
theorem Ext.new {G H : Hp} {p : Addr} {o : HO} (e : Ex G H) (h : H p = none) (ho : ∀ ps, o ≠ .tbl ps := by intro _ h; cases h) : Ext G H (upd G p o) (upd H p o) := by
  refine ⟨Ex.new (e.back h), Ex.new h, e.upd2 p o, fun a u q n => ?_, fun a ps q => upd_nt ho q⟩
  by_cases z : a = p
  · subst z; exact h
  · rw [upd_ne z, n] at q; cases q
/-- the heap alone grows -/
theorem Ext.heap {G H H2 : Hp} (e : Ex G H) (h : Ex H H2) : Ext G H G H2 := ⟨Ex.refl G, h, e.trans h, fun a o q n => (by rw [q] at n; cases n), fun _ _ q => q⟩
/-- a new one that is not settled yet -/
theorem Ext.keepN {G H G2 H2 : Hp} (x : Ext G H G2 H2) {p : Addr} {o : HO} (n : G p = none) (h : H p = some o) : G2 p = none := by
  cases q : G2 p with
  | none => rfl
  | some u => have := x.nw p u q n; rw [h] at this; cases this

/-! ### values that stand for data -/
mutual
theorem dp_mono {K : PySem.W.Frag} {G G2 : Hp} (e : Ex G G2) : ∀ (d : PyData) (v : V), Dp K G v d → Dp K G2 v d
  | .none, _, h => by cases h; exact .non
  | .bool b, _, h => by cases h; exact .bl b
  | .int i, _, h => by cases h; exact .int i
  | .str x, _, h => by cases h; exact .str x
  | .list ds, _, h => by
    cases h with
    | lst a b => exact .lst (e.seqL a) (dpAll_mono e ds _ b)
  | .tuple ds, _, h => by
    cases h with
    | tup a b => exact .tup (e.seqT a) (dpAll_mono e ds _ b)
  | .dict _, _, h => by cases h
theorem dpAll_mono {K : PySem.W.Frag} {G G2 : Hp} (e : Ex G G2) : ∀ (ds : List PyData) (vs : List V), DpAll K G vs ds → DpAll K G2 vs ds
  | [], _, h => by cases h; exact .nil
  | d :: ds, _, h => by
    cases h with
    | cons a b => exact .cons (dp_mono e d _ a) (dpAll_mono e ds _ b)
end
end DL
namespace L2
open PySem PySem.Spec PyProof.Rows DL
section
variable {K : PySem.W.Frag} {G G2 H : Hp} {v : V} {vs ws : List V} {d : D} {ds es : List D} {i : Nat}
theorem Dp.up (h : Dp K G v d) (e : Ex G G2) : Dp K G2 v d := dp_mono e d v h
theorem DpAll.up (h : DpAll K G vs ds) (e : Ex G G2) : DpAll K G2 vs ds := dpAll_mono e ds vs h
theorem DpAll.length : ∀ {vs : List V} {ds : List D}, DpAll K G vs ds → vs.length = ds.length
  | _, _, .nil => rfl
  | _, _, .cons _ t => by rw [List.length_cons, List.length_cons, DpAll.length t]
theorem DpAll.app : ∀ {vs : List V} {ds : List D}, DpAll K G vs ds → DpAll K G ws es → DpAll K G (vs ++ ws) (ds ++ es)
  | _, _, .nil, s => s
  | _, _, .cons r t, s => .cons r (DpAll.app t s)
theorem DpAll.one (h : Dp K G v d) : DpAll K G [v] [d] := .cons h .nil
theorem DpAll.at : ∀ {vs : List V} {ds : List D} {i : Nat} {d : D}, DpAll K G vs ds → ds[i]? = some d → ∃ v, vs[i]? = some v ∧ Dp K G v d
  | _, _, _, _, .nil, e => by simp at e
  | _, _, 0, _, .cons r _, e => by simp at e; subst e; exact ⟨_, rfl, r⟩
  | _, _, i + 1, d, .cons _ t, e => by
    obtain ⟨u, h1, h2⟩ := DpAll.at (i := i) (d := d) t (by simpa using e)
    exact ⟨u, by simpa using h1, h2⟩
theorem DpAll.at' : ∀ {vs : List V} {ds : List D} {i : Nat} {v : V}, DpAll K G vs ds → vs[i]? = some v → ∃ d, ds[i]? = some d ∧ Dp K G v d
  | _, _, _, _, .nil, e => by simp at e
  | _, _, 0, _, .cons r _, e => by simp at e; subst e; exact ⟨_, rfl, r⟩
  | _, _, i + 1, d, .cons _ t, e => by
    obtain ⟨u, h1, h2⟩ := DpAll.at' (i := i) (v := d) t (by simpa using e)
    exact ⟨u, by simpa using h1, h2⟩
theorem DpAll.take : ∀ {vs : List V} {ds : List D} (n : Nat), DpAll K G vs ds → DpAll K G (vs.take n) (ds.take n)
  | _, _, 0, _ => .nil
  | _, _, _ + 1, .nil => .nil
  | _, _, n + 1, .cons r t => .cons r (DpAll.take n t)
theorem DpAll.drop : ∀ {vs : List V} {ds : List D} (n : Nat), DpAll K G vs ds → DpAll K G (vs.drop n) (ds.drop n)
  | _, _, 0, r => r
  | _, _, _ + 1, .nil => .nil
  | _, _, n + 1, .cons _ t => DpAll.drop n t
theorem DpAll.dropLast : ∀ {vs : List V} {ds : List D}, DpAll K G vs ds → DpAll K G vs.dropLast ds.dropLast := fun {vs ds} h => by
  rw [List.dropLast_eq_take, List.dropLast_eq_take, h.length]
  exact h.take _
theorem DpAll.erase : ∀ {vs : List V} {ds : List D} (n : Nat), DpAll K G vs ds → DpAll K G (vs.eraseIdx n) (ds.eraseIdx n)
  | _, _, _, .nil => .nil
  | _, _, 0, .cons _ t => t
  | _, _, n + 1, .cons r t => .cons r (DpAll.erase n t)
theorem DpAll.set (h : Dp K G v d) : ∀ {vs : List V} {ds : List D} (n : Nat), DpAll K G vs ds → DpAll K G (vs.set n v) (ds.set n d)
  | _, _, _, .nil => .nil
  | _, _, 0, .cons _ t => .cons h t
  | _, _, n + 1, .cons r t => .cons r (DpAll.set h n t)
theorem dp_int (h : Dp K G v (.int n)) : v = .int n := by cases h; rfl
theorem dp_bool (h : Dp K G v (.bool n)) : v = .bl n := by cases h; rfl
theorem dp_str (h : Dp K G v (.str n)) : v = .str n := by cases h; rfl
theorem dp_none (h : Dp K G v .none) : v = .non := by cases h; rfl
theorem dp_lst (h : Dp K G v (.list ds)) : ∃ a vs, v = .ref a ∧ SqL K G a vs ∧ DpAll K G vs ds := by
  cases h with
  | lst a b => exact ⟨_, _, rfl, a, b⟩
theorem dp_tup (h : Dp K G v (.tuple ds)) : ∃ a vs, v = .ref a ∧ SqT K G a vs ∧ DpAll K G vs ds := by
  cases h with
  | tup a b => exact ⟨_, _, rfl, a, b⟩
theorem dpAll_ints : ∀ {vs : List V} {ns : List Int}, DpAll K G vs (ns.map .int) → vs = ns.map V.int
  | _, [], h => by cases h; rfl
  | _, n :: ns, h => by
    cases h with
    | cons a b => rw [dp_int a, dpAll_ints b]; rfl
theorem dpAll_bools : ∀ {vs : List V} {ns : List Bool}, DpAll K G vs (ns.map .bool) → vs = ns.map V.bl
  | _, [], h => by cases h; rfl
  | _, n :: ns, h => by
    cases h with
    | cons a b => rw [dp_bool a, dpAll_bools b]; rfl
theorem dpAll_strs : ∀ {vs : List V} {ns : List Str}, DpAll K G vs (ns.map .str) → vs = ns.map V.str
  | _, [], h => by cases h; rfl
  | _, n :: ns, h => by
    cases h with
    | cons a b => rw [dp_str a, dpAll_strs b]; rfl
theorem DpAll.inv_nil (h : DpAll K G vs []) : vs = [] := by cases h; rfl
theorem DpAll.inv_cons (h : DpAll K G vs (d :: ds)) : ∃ v r, vs = v :: r ∧ Dp K G v d ∧ DpAll K G r ds := by
  cases h with
  | cons a b => exact ⟨_, _, rfl, a, b⟩
end

end L2
namespace DL
open PySem PySem.Spec PyProof.Rows L2
/-! ### things that change (instances, dicts, lists of them) -/
/-- what an .ext object may be that is no code object -/
def SoftX (φ : Heap → Prop) : Prop := ∃ a, (∃ h, φ h) ∧ ∀ h, φ h → ∃ oc, h.get? a = some oc ∧ ∀ vs, oc.data ≠ .fields vs
/-- what may change -/
def SoftO : HO → Prop
  | .lst _ | .dK _ | .dT _ | .set _ _ | .ins _ _ _ | .own _ | .xd _ | .frz _ _ => True
  | .ext φ => SoftX φ
  | _ => False
/-- a cell of a thing: where it stands, what is told of its object -/
structure Cell where
  at_ : Addr
  ok : PySem.W.Frag → Hp → HO → Prop
  mono : ∀ K G G2 o, Ex G G2 → ok K G o → ok K G2 o
  soft : ∀ K G o, ok K G o → SoftO o
/-- a thing: what names it, its cells -/
structure Thg where
  root : Addr
  cells : List Cell
  /-- it may be changed -/
  w : Bool := true
def Thg.Has (t : Thg) (a : Addr) : Prop := ∃ c ∈ t.cells, c.at_ = a
structure Thg.Ok (K : PySem.W.Frag) (out G H : Hp) (t : Thg) : Prop where
  ok : ∀ c ∈ t.cells, (t.w = true → out c.at_ = none) ∧ G c.at_ = none ∧ ∃ o, H c.at_ = some o ∧ c.ok K G o
/-! ### the slots of a frame -/
/-- a name: without a value that is told; some data; a list of its own (no one else has it: it may be changed); a thing -/
inductive Sl where
  | un | dat (d : D) | own (ds : List D) (p : Option Addr := none) | raw (v : V) | thg (t : Thg)
abbrev Env := List Sl
/-- what stood outside and stays (out); what is known of all things that never change (inv) -/
structure Bs where
  out : Hp
  inv : Hp → Prop
  keep : ∀ H H2, inv H → (∀ a o, H a = some o → ¬ SoftO o → H2 a = some o) → inv H2
def Bs.of (H : Hp) : Bs := ⟨H, fun _ => True, fun _ _ _ _ => trivial⟩
/-- the things of a frame -/
structure Things (K : PySem.W.Frag) (out G H : Hp) (σ : L2.St) (ρ : Env) : Prop where
  at_ : ∀ (i : Nat) t, ρ[i]? = some (.thg t) → σ[i]? = some (some (.ref t.root)) ∧ t.Ok K out G H
  lst : ∀ (i j : Nat) ds p0 t p, ρ[i]? = some (.own ds p0) → ρ[j]? = some (.thg t) → σ[i]? = some (some (.ref p)) → ¬ t.Has p
  two : ∀ (i j : Nat) t u, i ≠ j → ρ[i]? = some (.thg t) → ρ[j]? = some (.thg u) → ∀ a, t.Has a → ¬ u.Has a
structure Slots (K : PySem.W.Frag) (H0 : Bs) (G H : Hp) (σ : L2.St) (ρ : Env) : Prop where
  len : σ.length = ρ.length
  dat : ∀ (i : Nat) d, ρ[i]? = some (.dat d) → ∃ v, σ[i]? = some (some v) ∧ Dp K G v d
  own : ∀ (i : Nat) ds p0, ρ[i]? = some (.own ds p0) → ∃ p vs, σ[i]? = some (some (.ref p)) ∧ H0.out p = none ∧ G p = none ∧ H p = some (.lst vs) ∧ DpAll K G vs ds
  apart : ∀ (i j : Nat) ds es p0 p1 p, i ≠ j → ρ[i]? = some (.own ds p0) → ρ[j]? = some (.own es p1) → σ[i]? = some (some (.ref p)) → σ[j]? ≠ some (some (.ref p))
  pin : ∀ (i : Nat) ds p q, ρ[i]? = some (.own ds (some p)) → σ[i]? = some (some (.ref q)) → q = p
  inv : H0.inv H
  raw : ∀ (i : Nat) v, ρ[i]? = some (.raw v) → σ[i]? = some (some v)
  thg : Things K H0.out G H σ ρ
/-- nothing of the slots stands at q -/
structure Free (ρ : Env) (σ : L2.St) (q : Addr) : Prop where
  own : ∀ (j : Nat) (es : List D) p0, ρ[j]? = some (Sl.own es p0) → σ[j]? ≠ some (some (V.ref q))
  thg : ∀ (j : Nat) t, ρ[j]? = some (Sl.thg t) → ¬ t.Has q
section
variable {K : PySem.W.Frag} {H0 : Bs} {G H G2 H2 : Hp} {σ : L2.St} {ρ : Env}
theorem get_set_ne {α : Type} {l : List α} {i j : Nat} {x y : α} (h : i ≠ j) (e : (l.set i x)[j]? = some y) : l[j]? = some y := by
  rw [List.getElem?_set_ne h] at e; exact e
theorem get_set_eq {α : Type} {l : List α} {i : Nat} {x y : α} (e : (l.set i x)[i]? = some y) : y = x ∧ i < l.length := by
  by_cases h : i < l.length
  · rw [List.getElem?_set_self h] at e; exact ⟨(Option.some.inj e).symm, h⟩
  · rw [List.getElem?_eq_none (by simpa using h)] at e; cases e
theorem Thg.Ok.up {out : Hp} {t : Thg} (h : t.Ok K out G H) (x : Ext G H G2 H2) : t.Ok K out G2 H2 := ⟨fun c hc => by
  obtain ⟨a1, a2, o, a3, a4⟩ := h.ok c hc
  exact ⟨a1, x.keepN a2 a3, o, x.h _ _ a3, c.mono _ _ _ _ x.g a4⟩⟩
/-- the things go over -/
theorem Things.to {out out' : Hp} {σ' : L2.St} {ρ' : Env} (s : Things K out G H σ ρ) (hs : ∀ (i : Nat) t, ρ'[i]? = some (.thg t) → ρ[i]? = some (.thg t) ∧ σ'[i]? = σ[i]?)
    (ho : ∀ (i : Nat) ds p0 p, ρ'[i]? = some (.own ds p0) → σ'[i]? = some (some (.ref p)) → (∃ ds0 p1, ρ[i]? = some (.own ds0 p1) ∧ σ[i]? = some (some (.ref p))) ∨ ∀ (j : Nat) t, ρ[j]? = some (.thg t) → ¬ t.Has p)
    (hc : ∀ (i : Nat) t, ρ[i]? = some (.thg t) → t.Ok K out G H → t.Ok K out' G2 H2) : Things K out' G2 H2 σ' ρ' := by
  refine ⟨fun i t h => ?_, fun i j ds p0 t p h1 h2 h3 => ?_, fun i j t u n h1 h2 => s.two i j t u n (hs i t h1).1 (hs j u h2).1⟩
  · obtain ⟨h1, h2⟩ := hs i t h
    obtain ⟨h3, h4⟩ := s.at_ i t h1
    exact ⟨h2.trans h3, hc i t h1 h4⟩
  · rcases ho i ds p0 p h1 h3 with ⟨d0, p1, e1, e2⟩ | z
    · exact s.lst i j d0 p1 t p e1 (hs j t h2).1 e2
    · exact z j t (hs j t h2).1
theorem Things.up {out : Hp} (s : Things K out G H σ ρ) (x : Ext G H G2 H2) : Things K out G2 H2 σ ρ := s.to (fun _ _ h => ⟨h, rfl⟩) (fun _ ds p0 _ h1 h2 => .inl ⟨ds, p0, h1, h2⟩) fun _ _ _ h => h.up x
theorem Things.no {out : Hp} (h : ∀ (i : Nat) t, ρ[i]? ≠ some (.thg t)) : Things K out G H σ ρ := ⟨fun i t q => (h i t q).elim, fun _ j _ _ t _ _ q => (h j t q).elim, fun i _ t _ _ q => (h i t q).elim⟩
/-- a slot gets what is neither -/
theorem Things.set0 {out : Hp} {v : Option V} {x : Sl} {i : Nat} (s : Things K out G H σ ρ) (h1 : ∀ t, x ≠ .thg t := by intro _ h; cases h) (h2 : ∀ ds p, x ≠ .own ds p := by intro _ _ h; cases h) : Things K out G H (σ.set i v) (ρ.set i x) :=
  s.to (fun j t h => by
      have q : i ≠ j := fun q => by subst q; obtain ⟨e, _⟩ := get_set_eq h; exact h1 t e.symm
      exact ⟨get_set_ne q h, List.getElem?_set_ne q⟩)
    (fun j ds p0 p h h3 => by
      have q : i ≠ j := fun q => by subst q; obtain ⟨e, _⟩ := get_set_eq h; exact h2 ds p0 e.symm
      rw [List.getElem?_set_ne q] at h3
      exact .inl ⟨ds, p0, get_set_ne q h, h3⟩) fun _ _ _ h => h
theorem Thg.Ok.out_ {out out' : Hp} {t : Thg} (h : t.Ok K out G H) (e : ∀ a, t.Has a → out a = none → out' a = none) (eg : ∀ a, t.Has a → G a = none → G2 a = none) (eh : ∀ a, t.Has a → H2 a = H a) (g : Ex G G2) : t.Ok K out' G2 H2 := ⟨fun c hc => by
  obtain ⟨a1, a2, o, a3, a4⟩ := h.ok c hc
  exact ⟨fun hw => e _ ⟨c, hc, rfl⟩ (a1 hw), eg _ ⟨c, hc, rfl⟩ a2, o, by rw [eh _ ⟨c, hc, rfl⟩]; exact a3, c.mono _ _ _ _ g a4⟩⟩
theorem Thg.Ok.ne {out : Hp} {t : Thg} (h : t.Ok K out G H) {q : Addr} (n : H q = none) : ¬ t.Has q := fun ⟨c, hc, e⟩ => by
  obtain ⟨_, _, o, a3, _⟩ := h.ok c hc
  rw [e, n] at a3; cases a3
theorem Slots.free (s : Slots K H0 G H σ ρ) {q : Addr} (n : H q = none) : Free ρ σ q := by
  refine ⟨fun j es p0 hd e => ?_, fun j t h => (s.thg.at_ j t h).2.ne n⟩
  obtain ⟨p', vs', e', _, _, hh, _⟩ := s.own j es p0 hd
  rw [e'] at e
  cases e
  rw [n] at hh
  cases hh
theorem Slots.up (s : Slots K H0 G H σ ρ) (x : Ext G H G2 H2) : Slots K H0 G2 H2 σ ρ := by
  refine ⟨s.len, fun i d h => ?_, fun i ds p0 h => ?_, s.apart, s.pin, H0.keep _ _ s.inv fun a o h _ => x.h a o h, s.raw, s.thg.up x⟩
  · obtain ⟨v, e, r⟩ := s.dat i d h
    exact ⟨v, e, r.up x.g⟩
  · obtain ⟨p, vs, e, h0, hg, hh, r⟩ := s.own i ds p0 h
    exact ⟨p, vs, e, h0, x.keepN hg hh, x.h _ _ hh, r.up x.g⟩
/-- a slot gets data -/
theorem Slots.setD (s : Slots K H0 G H σ ρ) {i : Nat} {v : V} {d : D} (r : Dp K G v d) : Slots K H0 G H (σ.set i (some v)) (ρ.set i (.dat d)) := by
  refine ⟨by rw [List.length_set, List.length_set, s.len], fun j d' h => ?_, fun j ds p0 h => ?_, fun j k ds es p0 p1 p hjk h1 h2 h3 h4 => ?_, fun j ds p q h1 h2 => ?_, s.inv, fun j v9 h => by
    have q : i ≠ j := fun q => by subst q; obtain ⟨e, _⟩ := get_set_eq h; cases e
    rw [List.getElem?_set_ne q]; exact s.raw j v9 (get_set_ne q h), s.thg.set0⟩
  · by_cases q : i = j
    · subst q
      obtain ⟨e, hl⟩ := get_set_eq h
      cases e
      exact ⟨v, List.getElem?_set_self (by rw [s.len]; exact hl), r⟩
    · obtain ⟨v', e, r'⟩ := s.dat j d' (get_set_ne q h)
      exact ⟨v', by rw [List.getElem?_set_ne q]; exact e, r'⟩
  · by_cases q : i = j
    · subst q
      obtain ⟨e, _⟩ := get_set_eq h
      cases e
    · obtain ⟨p, vs, e, z⟩ := s.own j ds p0 (get_set_ne q h)
      exact ⟨p, vs, by rw [List.getElem?_set_ne q]; exact e, z⟩
  · have q1 : i ≠ j := fun q => by subst q; obtain ⟨e, _⟩ := get_set_eq h1; cases e
    have q2 : i ≠ k := fun q => by subst q; obtain ⟨e, _⟩ := get_set_eq h2; cases e
    rw [List.getElem?_set_ne q1] at h1 h3
    rw [List.getElem?_set_ne q2] at h2 h4
    exact s.apart j k ds es p0 p1 p hjk h1 h2 h3 h4
  · have q1 : i ≠ j := fun q => by subst q; obtain ⟨e, _⟩ := get_set_eq h1; cases e
    rw [List.getElem?_set_ne q1] at h1 h2
    exact s.pin j ds p q h1 h2
/-- a slot's value is not told any more -/
theorem Slots.setU (s : Slots K H0 G H σ ρ) (i : Nat) (v : Option V) : Slots K H0 G H (σ.set i v) (ρ.set i .un) := by
  refine ⟨by rw [List.length_set, List.length_set, s.len], fun j d' h => ?_, fun j ds p0 h => ?_, fun j k ds es p0 p1 p hjk h1 h2 h3 h4 => ?_, fun j ds p q h1 h2 => ?_, s.inv, fun j v9 h => by
    have q : i ≠ j := fun q => by subst q; obtain ⟨e, _⟩ := get_set_eq h; cases e
    rw [List.getElem?_set_ne q]; exact s.raw j v9 (get_set_ne q h), s.thg.set0⟩
  · by_cases q : i = j
    · subst q
      obtain ⟨e, hl⟩ := get_set_eq h
      cases e
    · obtain ⟨v', e, r'⟩ := s.dat j d' (get_set_ne q h)
      exact ⟨v', by rw [List.getElem?_set_ne q]; exact e, r'⟩
  · by_cases q : i = j
    · subst q
      obtain ⟨e, _⟩ := get_set_eq h
      cases e
    · obtain ⟨p, vs, e, z⟩ := s.own j ds p0 (get_set_ne q h)
      exact ⟨p, vs, by rw [List.getElem?_set_ne q]; exact e, z⟩
  · have q1 : i ≠ j := fun q => by subst q; obtain ⟨e, _⟩ := get_set_eq h1; cases e
    have q2 : i ≠ k := fun q => by subst q; obtain ⟨e, _⟩ := get_set_eq h2; cases e
    rw [List.getElem?_set_ne q1] at h1 h3
    rw [List.getElem?_set_ne q2] at h2 h4
    exact s.apart j k ds es p0 p1 p hjk h1 h2 h3 h4
  · have q1 : i ≠ j := fun q => by subst q; obtain ⟨e, _⟩ := get_set_eq h1; cases e
    rw [List.getElem?_set_ne q1] at h1 h2
    exact s.pin j ds p q h1 h2
/-- a slot gets a list of its own -/
theorem Slots.setO (s : Slots K H0 G H σ ρ) {i : Nat} {p : Addr} {vs : List V} {ds : List D} {p9 : Option Addr} (h0 : H0.out p = none) (hg : G p = none) (hh : H p = some (.lst vs)) (r : DpAll K G vs ds)
    (hn : Free ρ σ p) (hp9 : ∀ q, p9 = some q → p = q := by intro _ h; cases h) : Slots K H0 G H (σ.set i (some (.ref p))) (ρ.set i (.own ds p9)) := by
  refine ⟨by rw [List.length_set, List.length_set, s.len], fun j d' h => ?_, fun j es p0 h => ?_, fun j k es fs p0 p1 q hjk h1 h2 h3 h4 => ?_, fun j es p' q h1 h2 => ?_, s.inv, fun j v9 h => by
    have q : i ≠ j := fun q => by subst q; obtain ⟨e, _⟩ := get_set_eq h; cases e
    rw [List.getElem?_set_ne q]; exact s.raw j v9 (get_set_ne q h), ?_⟩
  · by_cases q : i = j
    · subst q
      obtain ⟨e, hl⟩ := get_set_eq h
      cases e
    · obtain ⟨v', e, r'⟩ := s.dat j d' (get_set_ne q h)
      exact ⟨v', by rw [List.getElem?_set_ne q]; exact e, r'⟩
  · by_cases q : i = j
    · subst q
      obtain ⟨e, hl⟩ := get_set_eq h
      cases e
      exact ⟨p, vs, List.getElem?_set_self (by rw [s.len]; exact hl), h0, hg, hh, r⟩
    · obtain ⟨p', vs', e, z⟩ := s.own j es p0 (get_set_ne q h)
      exact ⟨p', vs', by rw [List.getElem?_set_ne q]; exact e, z⟩
  · by_cases q1 : i = j
    · subst q1
      have hk : i ≠ k := hjk
      obtain ⟨_, hl⟩ := get_set_eq h1
      rw [List.getElem?_set_self (by rw [s.len]; exact hl)] at h3
      cases h3
      rw [List.getElem?_set_ne hk] at h2 h4
      exact hn.own k fs p1 h2 h4
    · by_cases q2 : i = k
      · subst q2
        obtain ⟨_, hl⟩ := get_set_eq h2
        rw [List.getElem?_set_self (by rw [s.len]; exact hl)] at h4
        cases h4
        rw [List.getElem?_set_ne q1] at h1 h3
        exact hn.own j es p0 h1 h3
      · rw [List.getElem?_set_ne q1] at h1 h3
        rw [List.getElem?_set_ne q2] at h2 h4
        exact s.apart j k es fs p0 p1 q hjk h1 h2 h3 h4
  · by_cases q1 : i = j
    · subst q1
      obtain ⟨e, hl⟩ := get_set_eq h1
      rw [List.getElem?_set_self (by rw [s.len]; exact hl)] at h2
      cases h2
      injection e with _ e
      exact hp9 p' e.symm
    · rw [List.getElem?_set_ne q1] at h1 h2
      exact s.pin j es p' q h1 h2
  · exact s.thg.to (fun j t h => by
        have q : i ≠ j := fun q => by subst q; obtain ⟨e, _⟩ := get_set_eq h; cases e
        exact ⟨get_set_ne q h, List.getElem?_set_ne q⟩)
      (fun j ds p0 p' h h3 => by
        by_cases q : i = j
        · subst q
          obtain ⟨_, hl⟩ := get_set_eq h
          rw [List.getElem?_set_self (by rw [s.len]; exact hl)] at h3
          cases h3
          exact .inr hn.thg
        · rw [List.getElem?_set_ne q] at h3
          exact .inl ⟨ds, p0, get_set_ne q h, h3⟩) fun _ _ _ h => h
/-- an own list is changed -/
theorem Slots.mut (s : Slots K H0 G H σ ρ) {i : Nat} {p : Addr} {vs : List V} {ds0 ds : List D} {p9 : Option Addr} (hi : ρ[i]? = some (.own ds0 p9)) (hp : σ[i]? = some (some (.ref p))) (r : DpAll K G vs ds) :
    Slots K H0 G (upd H p (.lst vs)) σ (ρ.set i (.own ds p9)) := by
  have w : ∀ {m : Nat} {xs : List D} {p0}, (ρ.set i (.own ds p9))[m]? = some (.own xs p0) → ∃ ys, ρ[m]? = some (.own ys p0) := fun {m xs p0} h => by
    by_cases q : i = m
    · subst q
      obtain ⟨e, hl⟩ := get_set_eq h
      injection e with _ e
      exact ⟨ds0, by rw [e]; exact hi⟩
    · exact ⟨_, get_set_ne q h⟩
  refine ⟨by rw [List.length_set, s.len], fun j d' h => ?_, fun j es p0 h => ?_, fun j k es fs p0 p1 q hjk h1 h2 h3 h4 => ?_, fun j es p' q h1 h2 => ?_, ?_, fun j v9 h => s.raw j v9 (get_set_ne (fun q => by subst q; obtain ⟨e, _⟩ := get_set_eq h; cases e) h), ?_⟩
  · by_cases q : i = j
    · subst q
      obtain ⟨e, hl⟩ := get_set_eq h
      cases e
    · exact s.dat j d' (get_set_ne q h)
  · by_cases q : i = j
    · subst q
      obtain ⟨e, hl⟩ := get_set_eq h
      cases e
      obtain ⟨p', vs', e', h0, hg, hh, _⟩ := s.own i ds0 p9 hi
      rw [hp] at e'; cases e'
      exact ⟨p, vs, hp, h0, hg, upd_same, r⟩
    · obtain ⟨p', vs', e, h0, hg, hh, z⟩ := s.own j es p0 (get_set_ne q h)
      have ne : p' ≠ p := fun z => by subst z; exact s.apart i j ds0 es p9 p0 p' q hi (get_set_ne q h) hp e
      exact ⟨p', vs', e, h0, hg, by rw [upd_ne ne]; exact hh, z⟩
  · obtain ⟨_, h1⟩ := w h1
    obtain ⟨_, h2⟩ := w h2
    exact s.apart j k _ _ _ _ q hjk h1 h2 h3 h4
  · obtain ⟨_, h1⟩ := w h1
    exact s.pin j _ p' q h1 h2
  · obtain ⟨p', vs', e', _, _, hh, _⟩ := s.own i ds0 p9 hi
    rw [hp] at e'; cases e'
    refine H0.keep _ _ s.inv fun a o h n => ?_
    rw [upd_ne fun z => by subst z; rw [hh] at h; cases h; exact n trivial]
    exact h
  · refine s.thg.to (fun j t h => ⟨get_set_ne (fun q => by subst q; obtain ⟨e, _⟩ := get_set_eq h; cases e) h, rfl⟩) (fun j es p0 p' h h3 => ?_) fun j t h1 h2 => h2.out_ (fun _ _ z => z) (fun _ _ z => z) (fun a ha => ?_) (Ex.refl G)
    · obtain ⟨ys, h⟩ := w h
      exact .inl ⟨ys, p0, h, h3⟩
    · have ne : a ≠ p := fun z => s.thg.lst i j ds0 p9 t p hi h1 hp (by rw [← z]; exact ha)
      exact upd_ne ne
/-- an own list is settled -/
theorem Slots.settle (s : Slots K H0 G H σ ρ) (e : Ex G H) {i : Nat} {ds : List D} {p9 : Option Addr} (hi : ρ[i]? = some (.own ds p9)) :
    ∃ G2, Ex G G2 ∧ Ex G2 H ∧ (∀ a o, G2 a = some o → G a = none → H0.out a = none) ∧ (∀ a ps, G2 a = some (.tbl ps) → G a = some (.tbl ps)) ∧ Slots K H0 G2 H σ (ρ.set i (.dat (.list ds))) := by
  obtain ⟨p, vs, hp, h0, hg, hh, r⟩ := s.own i ds p9 hi
  have e1 : Ex G (upd G p (.lst vs)) := Ex.new hg
  refine ⟨upd G p (.lst vs), e1, fun a o h => ?_, fun a o h n => ?_, fun a ps h => upd_nt (fun _ z => by cases z) h, ⟨by rw [List.length_set, s.len], fun j d' h => ?_, fun j es p0 h => ?_, fun j k es fs p0 p1 q hjk h1 h2 h3 h4 => ?_, fun j es p' q h1 h2 => ?_, s.inv, fun j v9 h => s.raw j v9 (get_set_ne (fun q => by subst q; obtain ⟨e, _⟩ := get_set_eq h; cases e) h), ?_⟩⟩
  · by_cases q : a = p
    · subst q; rw [upd_same] at h; cases h; exact hh
    · rw [upd_ne q] at h; exact e a o h
  · by_cases q : a = p
    · subst q; exact h0
    · rw [upd_ne q, n] at h; cases h
  · by_cases q : i = j
    · subst q
      obtain ⟨e, hl⟩ := get_set_eq h
      cases e
      exact ⟨_, hp, .lst (.inl (.inl upd_same)) (r.up e1)⟩
    · obtain ⟨v', e, r'⟩ := s.dat j d' (get_set_ne q h)
      exact ⟨v', e, r'.up e1⟩
  · by_cases q : i = j
    · subst q
      obtain ⟨e, hl⟩ := get_set_eq h
      cases e
    · have h := get_set_ne q h
      obtain ⟨p', vs', e, h0', hg', hh', z⟩ := s.own j es p0 h
      have ne : p' ≠ p := fun z => by subst z; exact s.apart i j ds es p9 p0 p' q hi h hp e
      exact ⟨p', vs', e, h0', by rw [upd_ne ne]; exact hg', hh', z.up e1⟩
  · have q1 : i ≠ j := fun q => by subst q; obtain ⟨e, _⟩ := get_set_eq h1; cases e
    have q2 : i ≠ k := fun q => by subst q; obtain ⟨e, _⟩ := get_set_eq h2; cases e
    exact s.apart j k es fs p0 p1 q hjk (get_set_ne q1 h1) (get_set_ne q2 h2) h3 h4
  · have q1 : i ≠ j := fun q => by subst q; obtain ⟨e, _⟩ := get_set_eq h1; cases e
    exact s.pin j es p' q (get_set_ne q1 h1) h2
  · refine s.thg.to (fun j t h => ⟨get_set_ne (fun q => by subst q; obtain ⟨e, _⟩ := get_set_eq h; cases e) h, rfl⟩) (fun j es p0 p' h h3 => ?_) fun j t h1 h2 => h2.out_ (fun _ _ z => z) (fun a ha z => ?_) (fun _ _ => rfl) e1
    · exact .inl ⟨es, p0, get_set_ne (fun q => by subst q; obtain ⟨e, _⟩ := get_set_eq h; cases e) h, h3⟩
    · have ne : a ≠ p := fun z => s.thg.lst i j ds p9 t p hi h1 hp (by rw [← z]; exact ha)
      rw [upd_ne ne]; exact z
end

/-! ### what an expression gives -/
variable (K : PySem.W.Frag) (H0 : Bs) in
/-- data -/
def tD (ρ : Env) (d : D) : TE := fun σ H Q => ∃ G, Ex G H ∧ Slots K H0 G H σ ρ ∧ ∀ v G2 H2, Ext G H G2 H2 → Dp K G2 v d → Q v H2
variable (K : PySem.W.Frag) (H0 : Bs) in
/-- a new list, not settled yet -/
def tL (ρ : Env) (ds : List D) : TE := fun σ H Q => ∃ G, Ex G H ∧ Slots K H0 G H σ ρ ∧
  ∀ p vs G2 H2, Ext G H G2 H2 → H p = none → G2 p = none → H2 p = some (.lst vs) → DpAll K G2 vs ds → Q (.ref p) H2
variable (K : PySem.W.Frag) (H0 : Bs) in
/-- a list that can be read -/
def tR (ρ : Env) (ds : List D) : TE := fun σ H Q => ∃ G, Ex G H ∧ Slots K H0 G H σ ρ ∧ ∀ p vs G2 H2, Ext G H G2 H2 → SqL K H2 p vs → DpAll K G2 vs ds → Q (.ref p) H2
variable (K : PySem.W.Frag) (H0 : Bs) in
/-- a test -/
def tT (ρ : Env) (b : Bool) : TT := fun σ H Q => ∃ G, Ex G H ∧ Slots K H0 G H σ ρ ∧ ∀ G2 H2, Ext G H G2 H2 → Q b H2
variable (K : PySem.W.Frag) (H0 : Bs) in
/-- arguments -/
def tAs (ρ : Env) (ds : List D) : TA := fun σ H Q => ∃ G, Ex G H ∧ Slots K H0 G H σ ρ ∧ ∀ vs G2 H2, Ext G H G2 H2 → DpAll K G2 vs ds → Q vs H2

abbrev DE (X : Cx) (H0 : Bs) (ρ : Env) (e : Expr) (d : D) : Prop := PE X e (tD X.K H0 ρ d)
abbrev DL (X : Cx) (H0 : Bs) (ρ : Env) (e : Expr) (ds : List D) : Prop := PE X e (tL X.K H0 ρ ds)
abbrev DR (X : Cx) (H0 : Bs) (ρ : Env) (e : Expr) (ds : List D) : Prop := PE X e (tR X.K H0 ρ ds)
abbrev DT (X : Cx) (H0 : Bs) (ρ : Env) (e : Expr) (b : Bool) : Prop := PT X e (tT X.K H0 ρ b)
abbrev DW (X : Cx) (H0 : Bs) (ρ : Env) (e : Expr) (b : Bool) : Prop := PW X e (tT X.K H0 ρ b)
abbrev DA (X : Cx) (H0 : Bs) (ρ : Env) (es : List Expr) (ds : List D) : Prop := PA X es (tAs X.K H0 ρ ds)

section
variable {X : Cx} {e : Expr} {es : List Expr} {st : Stmt} {sts : List Stmt}
theorem _root_.L2.PE.imp {t t' : TE} (h : PE X e t) (f : ∀ σ H Q, t' σ H Q → t σ H Q) : PE X e t' := ⟨fun pins s σ H Q I q => h.run pins s σ H Q I (f _ _ _ q)⟩
theorem _root_.L2.PT.imp {t t' : TT} (h : PT X e t) (f : ∀ σ H Q, t' σ H Q → t σ H Q) : PT X e t' := ⟨fun pins s σ H Q I q => h.run pins s σ H Q I (f _ _ _ q)⟩
theorem _root_.L2.PW.imp {t t' : TT} (h : PW X e t) (f : ∀ σ H Q, t' σ H Q → t σ H Q) : PW X e t' := ⟨fun w pins s σ H Q I q => h.run w pins s σ H Q I (f _ _ _ q)⟩
theorem _root_.L2.PA.imp {t t' : TA} (h : PA X es t) (f : ∀ σ H Q, t' σ H Q → t σ H Q) : PA X es t' := ⟨fun pos pins s σ H Q I q => h.run pos pins s σ H Q I (f _ _ _ q)⟩
theorem _root_.L2.PS.imp {t t' : TS} (h : PS X st t) (f : ∀ D σ H, t' D σ H → t D σ H) : PS X st t' := ⟨fun pins s σ H D I q => h.run pins s σ H D I (f _ _ _ q)⟩
theorem _root_.L2.PSs.imp {t t' : TS} (h : PSs X sts t) (f : ∀ D σ H, t' D σ H → t D σ H) : PSs X sts t' := ⟨fun pins s σ H D I q => h.run pins s σ H D I (f _ _ _ q)⟩
theorem _root_.L2.PI.imp {tg : Expr} {t t' : TI} (h : PI X tg e t) (f : ∀ σ H Q, t' σ H Q → t σ H Q) : PI X tg e t' := ⟨fun pins s σ H Q I q => h.run pins s σ H Q I (f _ _ _ q)⟩
theorem _root_.L2.PG.imp {t t' : TG} (h : PG X e t) (f : ∀ v σ H Q, t' v σ H Q → t v σ H Q) : PG X e t' := ⟨fun pins s σ H v u Q I r q => h.run pins s σ H v u Q I r (f _ _ _ _ q)⟩
/-- only where C holds -/
theorem _root_.L2.PE.given {t : TE} {C : Prop} (h : C → PE X e t) : PE X e (fun σ H Q => C ∧ t σ H Q) := ⟨fun pins s σ H Q I q => (h q.1).run pins s σ H Q I q.2⟩
theorem _root_.L2.PW.given {t : TT} {C : Prop} (h : C → PW X e t) : PW X e (fun σ H Q => C ∧ t σ H Q) := ⟨fun w pins s σ H Q I q => (h q.1).run w pins s σ H Q I q.2⟩
theorem _root_.L2.PSs.given {t : TS} {C : Prop} (h : C → PSs X sts t) : PSs X sts (fun D σ H => C ∧ t D σ H) := ⟨fun pins s σ H D I q => (h q.1).run pins s σ H D I q.2⟩
end

section
variable {X : Cx} {H0 : Bs} {ρ : Env} {a b c e : Expr} {es rest : List Expr} {d da db dc : D} {ds ds' : List D} {pos : Pos}
/-- a new list is data -/
theorem dl_e (h : DL X H0 ρ e ds) : DE X H0 ρ e (.list ds) := h.imp fun σ H Q ⟨G, x, sl, q⟩ => ⟨G, x, sl, fun p vs G2 H2 y n n2 hp r =>
  q (.ref p) (upd G2 p (.lst vs)) H2 ⟨y.g.trans (Ex.new n2), y.h, fun a o h => by
    by_cases z : a = p
    · subst z; rw [upd_same] at h; cases h; exact hp
    · rw [upd_ne z] at h; exact y.gh a o h, fun a o h m => by
    by_cases z : a = p
    · subst z; exact n
    · rw [upd_ne z] at h; exact y.nw a o h m, fun a ps h => y.nt a ps (upd_nt (fun _ z => by cases z) h)⟩ (.lst (.inl (.inl upd_same)) (r.up (Ex.new n2)))⟩
theorem dl_r (h : DL X H0 ρ e ds) : DR X H0 ρ e ds := h.imp fun σ H Q ⟨G, x, sl, q⟩ => ⟨G, x, sl, fun p vs G2 H2 y n n2 hp r => q p vs G2 H2 y (.inl (.inl hp)) r⟩
theorem de_r (h : DE X H0 ρ e (.list ds)) : DR X H0 ρ e ds := h.imp fun σ H Q ⟨G, x, sl, q⟩ => ⟨G, x, sl, fun v G2 H2 y r => by
  obtain ⟨p, vs, rfl, h1, h2⟩ := dp_lst r
  exact q p vs G2 H2 y (y.gh.seqL h1) h2⟩
theorem de_to (h : DE X H0 ρ e d) (q : d = da) : DE X H0 ρ e da := q ▸ h
theorem dl_to (h : DL X H0 ρ e ds) (q : ds = ds') : DL X H0 ρ e ds' := q ▸ h
theorem dr_to (h : DR X H0 ρ e ds) (q : ds = ds') : DR X H0 ρ e ds' := q ▸ h
theorem dt_to {p q : Bool} (h : DT X H0 ρ e p) (z : p = q) : DT X H0 ρ e q := z ▸ h

/-! names, constants -/
theorem de_var (i : Nat) {x : Str} (h : ρ[i]? = some (.dat d)) (hN : X.N[i]? = some x := by rfl) (hv : Vis X.env.scope x := by first | exact Or.inl rfl | exact Or.inr (Or.inl rfl) | exact Or.inr (Or.inr rfl)) (hd : (x == ("__debug__" : Str)) = false := by decide)
    (hcd : (x == ("__classdict__" : Str)) = false := by decide) : DE X H0 ρ (.Name x pos) d :=
  (pv i hN hv hd hcd).imp fun σ H Q ⟨G, x, sl, q⟩ => let ⟨v, e, r⟩ := sl.dat i d h; ⟨v, e, q v G H (Ext.refl x) r⟩
theorem dr_own (i : Nat) {x : Str} {p9 : Option Addr} (h : ρ[i]? = some (.own ds p9)) (hN : X.N[i]? = some x := by rfl) (hv : Vis X.env.scope x := by first | exact Or.inl rfl | exact Or.inr (Or.inl rfl) | exact Or.inr (Or.inr rfl)) (hd : (x == ("__debug__" : Str)) = false := by decide)
    (hcd : (x == ("__classdict__" : Str)) = false := by decide) : DR X H0 ρ (.Name x pos) ds :=
  (pv i hN hv hd hcd).imp fun σ H Q ⟨G, x, sl, q⟩ => let ⟨p, vs, e, _, _, hh, r⟩ := sl.own i ds p9 h; ⟨.ref p, e, q p vs G H (Ext.refl x) (.inl (.inl hh)) r⟩
theorem de_int {k : Nat} {n : Int} : DE X H0 ρ (.Constant (.int n) k pos) (.int n) := pe_int.imp fun σ H Q ⟨G, x, sl, q⟩ => q _ G H (Ext.refl x) (.int n)
theorem de_bl {k : Nat} {n : Bool} : DE X H0 ρ (.Constant (.bool n) k pos) (.bool n) := pe_bl.imp fun σ H Q ⟨G, x, sl, q⟩ => q _ G H (Ext.refl x) (.bl n)
theorem de_non {k : Nat} : DE X H0 ρ (.Constant .none k pos) .none := pe_non.imp fun σ H Q ⟨G, x, sl, q⟩ => q _ G H (Ext.refl x) .non
theorem de_str {k : Nat} {n : Str} : DE X H0 ρ (.Constant (.str n) k pos) (.str n) := pe_str.imp fun σ H Q ⟨G, x, sl, q⟩ => q _ G H (Ext.refl x) (.str n)
/-- a constant of the module -/
theorem de_glob {x : Str} {n : Int} {t : Tok} (hg : Gl X x) (hm : X.mg x = some (.int n t)) (hd : (x == ("__debug__" : Str)) = false := by decide) : DE X H0 ρ (.Name x pos) (.int n) :=
  (pe_glob (v := .int n) hg hm ⟨_, rfl⟩ hd).imp fun σ H Q ⟨G, x, sl, q⟩ => q _ G H (Ext.refl x) (.int n)
theorem de_globS {x : Str} {n : Str} {t : Tok} (hg : Gl X x) (hm : X.mg x = some (.str n t)) (hd : (x == ("__debug__" : Str)) = false := by decide) : DE X H0 ρ (.Name x pos) (.str n) :=
  (pe_glob (v := .str n) hg hm ⟨_, rfl⟩ hd).imp fun σ H Q ⟨G, x, sl, q⟩ => q _ G H (Ext.refl x) (.str n)

/-! arguments -/
theorem da_nil : DA X H0 ρ [] [] := pa_nil.imp fun σ H Q ⟨G, x, sl, q⟩ => q [] G H (Ext.refl x) .nil
theorem da_cons (ha : DE X H0 ρ e d) (hr : DA X H0 ρ es ds) (hs : starEach (e :: es) X.env = (false, eval e X.env) :: starEach es X.env := by rfl) : DA X H0 ρ (e :: es) (d :: ds) :=
  (pa_cons ha hr hs).imp fun σ H Q ⟨G, x, sl, q⟩ => ⟨G, x, sl, fun v G1 H1 y r => ⟨G1, y.gh, sl.up y, fun vs G2 H2 z rs => q _ G2 H2 (y.trans z) (.cons (r.up z.g) rs)⟩⟩

/-! displays -/
theorem de_tup {k : Nat} (h : DA X H0 ρ es ds) (hl : ds.length ≤ 100000 := by first | decide | simp) : DE X H0 ρ (.Tuple es k pos) (.tuple ds) :=
  (pe_tup h).imp fun σ H Q ⟨G, x, sl, q⟩ => ⟨G, x, sl, fun vs G1 H1 y r => ⟨by rw [r.length]; exact Nat.le_trans hl (by decide), fun p hp =>
    q _ (upd G1 p (.tup vs)) (upd H1 p (.tup vs)) (y.trans (Ext.new y.gh hp)) (.tup (.inl (.inl upd_same)) (r.up (Ex.new (y.gh.back hp))))⟩⟩
theorem dl_lst (h : DA X H0 ρ es ds) (hl : ds.length ≤ 100000 := by first | decide | simp) : DL X H0 ρ (.List es pos) ds :=
  (pe_lst h).imp fun σ H Q ⟨G, x, sl, q⟩ => ⟨G, x, sl, fun vs G1 H1 y r => ⟨by rw [r.length]; exact Nat.le_trans hl (by decide), fun p hp =>
    q p vs G1 (upd H1 p (.lst vs)) (y.trans (Ext.heap y.gh (Ex.new hp))) (y.h.back hp) (y.gh.back hp) upd_same r⟩⟩

/-! operators by values -/
variable (X) in
/-- by values: what r gives of data -/
def OpD (r : R2) (da db dc : D) : Prop := ∀ x y G H Q, Ex G H → Dp X.K G x da → Dp X.K G y db → (∀ v G2 H2, Ext G H G2 H2 → Dp X.K G2 v dc → Q v H2) → r x y H Q
variable (X) in
def CallD (r : List V → Hp → VK → Prop) (ds : List D) (dc : D) : Prop := ∀ xs G H Q, Ex G H → DpAll X.K G xs ds → (∀ v G2 H2, Ext G H G2 H2 → Dp X.K G2 v dc → Q v H2) → r xs H Q
theorem tOpD {r : R2} (hr : OpD X r da db dc) : ∀ σ H Q, tD X.K H0 ρ dc σ H Q → tOp r (tD X.K H0 ρ da) (tD X.K H0 ρ db) σ H Q := fun σ H Q ⟨G, x, sl, q⟩ =>
  ⟨G, x, sl, fun v G1 H1 y r1 => ⟨G1, y.gh, sl.up y, fun u G2 H2 z r2 => hr v u G2 H2 Q z.gh (r1.up z.g) r2 fun w G3 H3 t r3 => q w G3 H3 ((y.trans z).trans t) r3⟩⟩
theorem de_bin {op : Operator} {r : R2} (ho : OpR X (binaryOp op) r) (hr : OpD X r da db dc) (ha : DE X H0 ρ a da) (hb : DE X H0 ρ b db) : DE X H0 ρ (.BinOp a op b pos) dc := (pe_op ho ha hb).imp (tOpD hr)
theorem de_cmp {op : CmpOp} {r : R2} (ho : OpR X (compareOp op) r) (hr : OpD X r da db dc) (ha : DE X H0 ρ a da) (hb : DE X H0 ρ b db) (hm : behindInMarks op b = false := by first | exact nomark _ | rfl) : DE X H0 ρ (.Compare a [op] [b] pos) dc :=
  (pe_cmpR ho ha hb hm).imp (tOpD hr)
theorem dt_cmp {op : CmpOp} {r : R2} {k : Bool} (ho : OpR X (compareOp op) r) (hr : OpD X r da db (.bool k)) (ha : DE X H0 ρ a da) (hb : DE X H0 ρ b db) (hm : behindInMarks op b = false := by first | exact nomark _ | rfl) : DT X H0 ρ (.Compare a [op] [b] pos) k :=
  (pt_cmpR ho ha hb hm).imp fun σ H Q ⟨G, x, sl, q⟩ => tOpD (H0 := H0) (ρ := ρ) hr σ H (fun x H' => ∃ k, x = .bl k ∧ Q k H') ⟨G, x, sl, fun v G2 H2 y r => ⟨k, dp_bool r, q G2 H2 y⟩⟩
theorem od_add {i j : Int} : OpD X (rI0 fun i j => .int (i + j)) (.int i) (.int j) (.int (i + j)) := fun x y G H Q e r1 r2 q => ⟨i, j, dp_int r1, dp_int r2, q _ G H (Ext.refl e) (.int _)⟩
theorem od_sub {i j : Int} : OpD X (rI0 fun i j => .int (i - j)) (.int i) (.int j) (.int (i - j)) := fun x y G H Q e r1 r2 q => ⟨i, j, dp_int r1, dp_int r2, q _ G H (Ext.refl e) (.int _)⟩
theorem od_lt {i j : Int} : OpD X (rI0 fun i j => .bl (decide (i < j))) (.int i) (.int j) (.bool (decide (i < j))) := fun x y G H Q e r1 r2 q => ⟨i, j, dp_int r1, dp_int r2, q _ G H (Ext.refl e) (.bl _)⟩
theorem od_le {i j : Int} : OpD X (rI0 fun i j => .bl (decide (i ≤ j))) (.int i) (.int j) (.bool (decide (i ≤ j))) := fun x y G H Q e r1 r2 q => ⟨i, j, dp_int r1, dp_int r2, q _ G H (Ext.refl e) (.bl _)⟩
theorem od_gt {i j : Int} : OpD X (rI0 fun i j => .bl (decide (j < i))) (.int i) (.int j) (.bool (decide (j < i))) := fun x y G H Q e r1 r2 q => ⟨i, j, dp_int r1, dp_int r2, q _ G H (Ext.refl e) (.bl _)⟩
theorem od_ge {i j : Int} : OpD X (rI0 fun i j => .bl (decide (j ≤ i))) (.int i) (.int j) (.bool (decide (j ≤ i))) := fun x y G H Q e r1 r2 q => ⟨i, j, dp_int r1, dp_int r2, q _ G H (Ext.refl e) (.bl _)⟩
theorem od_mul {i j : Int} (h : CMul i j) : OpD X (rI CMul fun i j => .int (i * j)) (.int i) (.int j) (.int (i * j)) := fun x y G H Q e r1 r2 q => ⟨i, j, dp_int r1, dp_int r2, h, q _ G H (Ext.refl e) (.int _)⟩
theorem od_mod {i j : Int} (h : 0 < j) : OpD X (rI (fun _ j => 0 < j) fun i j => .int (i % j)) (.int i) (.int j) (.int (i % j)) := fun x y G H Q e r1 r2 q => ⟨i, j, dp_int r1, dp_int r2, h, q _ G H (Ext.refl e) (.int _)⟩
theorem od_fdiv {i j : Int} (h : CDiv i j) : OpD X (rI CDiv fun i j => .int (i / j)) (.int i) (.int j) (.int (i / j)) := fun x y G H Q e r1 r2 q => ⟨i, j, dp_int r1, dp_int r2, h, q _ G H (Ext.refl e) (.int _)⟩
/-- == and != of data -/
theorem od_eq (h1 : SeqAt.shaped da = true) (h2 : SeqAt.shaped db = true) : OpD X (rEqD X.K) da db (.bool (PyData.eqv da db)) := fun x y G H Q e r1 r2 q => ⟨da, db, r1.up e, r2.up e, h1, h2, q _ G H (Ext.refl e) (.bl _)⟩
theorem od_ne (h1 : SeqAt.shaped da = true) (h2 : SeqAt.shaped db = true) : OpD X (rNeD X.K) da db (.bool (!PyData.eqv da db)) := fun x y G H Q e r1 r2 q => ⟨da, db, r1.up e, r2.up e, h1, h2, q _ G H (Ext.refl e) (.bl _)⟩
end
end DL
/-! DL2: further expressions over data. -/
namespace DL
open PySem PySem.Spec PyProof.Rows L2

section
variable {X : Cx} {H0 : Bs} {ρ : Env} {a b c e : Expr} {es rest : List Expr} {d da db dc dx : D} {ds ds' : List D} {pos p1 p2 : Pos} {p q : Bool}

/-! ### and, or, not -/
theorem de_one {op} (h : DE X H0 ρ a d) : DE X H0 ρ (.BoolOp op [a] pos) d := pe_one h
theorem de_and (ha : DE X H0 ρ a (.bool p)) (hb : p = true → DE X H0 ρ (.BoolOp .And (b :: rest) pos) (.bool q)) : DE X H0 ρ (.BoolOp .And (a :: b :: rest) pos) (.bool (p && q)) :=
  (pe_and ha (PE.given hb)).imp fun σ H Q ⟨G, x, sl, k⟩ => ⟨G, x, sl, fun v G1 H1 y r => ⟨p, dp_bool r, by
    cases p with
    | false =>
      show Q (.bl false) H1
      exact k _ G1 H1 y (.bl false)
    | true =>
      show _ ∧ _
      exact ⟨rfl, G1, y.gh, sl.up y, fun v2 G2 H2 z r2 => k v2 G2 H2 (y.trans z) r2⟩⟩⟩
theorem de_or (ha : DE X H0 ρ a (.bool p)) (hb : p = false → DE X H0 ρ (.BoolOp .Or (b :: rest) pos) (.bool q)) : DE X H0 ρ (.BoolOp .Or (a :: b :: rest) pos) (.bool (p || q)) :=
  (pe_or ha (PE.given hb)).imp fun σ H Q ⟨G, x, sl, k⟩ => ⟨G, x, sl, fun v G1 H1 y r => ⟨p, dp_bool r, by
    cases p with
    | true =>
      show Q (.bl true) H1
      exact k _ G1 H1 y (.bl true)
    | false =>
      show _ ∧ _
      exact ⟨rfl, G1, y.gh, sl.up y, fun v2 G2 H2 z r2 => k v2 G2 H2 (y.trans z) r2⟩⟩⟩
theorem de_not (ha : DE X H0 ρ a (.bool p)) : DE X H0 ρ (.UnaryOp .Not a pos) (.bool (!p)) :=
  (pe_not ha).imp fun σ H Q ⟨G, x, sl, k⟩ => ⟨G, x, sl, fun v G1 H1 y r => ⟨p, dp_bool r, k _ G1 H1 y (.bl _)⟩⟩
/-! as tests -/
theorem dw_and1 (ha : DT X H0 ρ a p) : DW X H0 ρ (.BoolOp .And [a] pos) p := pw_and1 ha
theorem dw_or1 (ha : DT X H0 ρ a p) : DW X H0 ρ (.BoolOp .Or [a] pos) p := pw_or1 ha
theorem dw_and (ha : DT X H0 ρ a p) (hb : p = true → DW X H0 ρ (.BoolOp .And (b :: rest) pos) q) : DW X H0 ρ (.BoolOp .And (a :: b :: rest) pos) (p && q) :=
  (pw_and ha (PW.given hb)).imp fun σ H Q ⟨G, x, sl, k⟩ => ⟨G, x, sl, fun G1 H1 y => by
    cases p with
    | false =>
      show Q false H1
      exact k G1 H1 y
    | true =>
      show _ ∧ _
      exact ⟨rfl, G1, y.gh, sl.up y, fun G2 H2 z => k G2 H2 (y.trans z)⟩⟩
theorem dw_or (ha : DT X H0 ρ a p) (hb : p = false → DW X H0 ρ (.BoolOp .Or (b :: rest) pos) q) : DW X H0 ρ (.BoolOp .Or (a :: b :: rest) pos) (p || q) :=
  (pw_or ha (PW.given hb)).imp fun σ H Q ⟨G, x, sl, k⟩ => ⟨G, x, sl, fun G1 H1 y => by
    cases p with
    | true =>
      show Q true H1
      exact k G1 H1 y
    | false =>
      show _ ∧ _
      exact ⟨rfl, G1, y.gh, sl.up y, fun G2 H2 z => k G2 H2 (y.trans z)⟩⟩
theorem dt_w (h : DW X H0 ρ a p) : DT X H0 ρ a p := h.pt
theorem dt_not (h : DT X H0 ρ a p) : DT X H0 ρ (.UnaryOp .Not a pos) (!p) := (pt_not h).imp fun σ H Q ⟨G, x, sl, k⟩ => ⟨G, x, sl, fun G1 H1 y => k G1 H1 y⟩
/-- an expression that gives a truth, as a test -/
theorem dt_val (h : DE X H0 ρ a (.bool p)) (he : ∀ whole, isTrue a X.env whole = (do let v ← whole; standAt a.pos; holding [v] (truthy v)) := by intro _; rfl) : DT X H0 ρ a p :=
  (pt_val h he).imp fun σ H Q ⟨G, x, sl, k⟩ => ⟨G, x, sl, fun v G1 H1 y r => ⟨p, dp_bool r, k G1 H1 y⟩⟩
/-- a op b op c -/
theorem de_chain {op op' : CmpOp} {r r' : R2} {p q : Bool} (ho : OpR X (compareOp op) r) (ho' : OpR X (compareOp op') r') (h1 : OpD X r da db (.bool p)) (h2 : p = true → OpD X r' db dc (.bool q))
    (ha : DE X H0 ρ a da) (hb : DE X H0 ρ b db) (hc : p = true → DE X H0 ρ c dc) (hm : lastMarks [op, op'] [b, c] = false := by with_unfolding_all rfl) : DE X H0 ρ (.Compare a [op, op'] [b, c] pos) (.bool (p && q)) :=
  (pe_chain ho ho' ha hb (PE.given hc) hm).imp fun σ H Q ⟨G, x, sl, k⟩ => ⟨G, x, sl, fun v G1 H1 y r1 => ⟨G1, y.gh, sl.up y, fun u G2 H2 z r2 => h1 v u G2 H2 _ z.gh (r1.up z.g) r2 fun w G3 H3 t r3 => ⟨p, dp_bool r3, by
    cases p with
    | false => rw [if_neg Bool.false_ne_true]; exact k _ G3 H3 ((y.trans z).trans t) (.bl _)
    | true =>
      rw [if_pos rfl]
      exact ⟨rfl, G3, t.gh, ((sl.up y).up z).up t, fun w2 G4 H4 t2 r4 => h2 rfl u w2 G4 H4 Q t2.gh ((r2.up t.g).up t2.g) r4 fun w3 G5 H5 t3 r5 => k w3 G5 H5 ((((y.trans z).trans t).trans t2).trans t3) r5⟩⟩⟩⟩
theorem dt_chain {op op' : CmpOp} {r r' : R2} {p q : Bool} (ho : OpR X (compareOp op) r) (ho' : OpR X (compareOp op') r') (h1 : OpD X r da db (.bool p)) (h2 : p = true → OpD X r' db dc (.bool q))
    (ha : DE X H0 ρ a da) (hb : DE X H0 ρ b db) (hc : p = true → DE X H0 ρ c dc) (hm : lastMarks [op, op'] [b, c] = false := by with_unfolding_all rfl) : DT X H0 ρ (.Compare a [op, op'] [b, c] pos) (p && q) :=
  (pt_chain ho ho' ha hb (PE.given hc) hm).imp fun σ H Q ⟨G, x, sl, k⟩ => ⟨G, x, sl, fun v G1 H1 y r1 => ⟨G1, y.gh, sl.up y, fun u G2 H2 z r2 => h1 v u G2 H2 _ z.gh (r1.up z.g) r2 fun w G3 H3 t r3 => ⟨p, dp_bool r3, by
    cases p with
    | false => rw [if_neg Bool.false_ne_true]; exact ⟨false, rfl, k G3 H3 ((y.trans z).trans t)⟩
    | true =>
      rw [if_pos rfl]
      exact ⟨rfl, G3, t.gh, ((sl.up y).up z).up t, fun w2 G4 H4 t2 r4 => h2 rfl u w2 G4 H4 _ t2.gh ((r2.up t.g).up t2.g) r4 fun w3 G5 H5 t3 r5 => ⟨q, dp_bool r5, k G5 H5 ((((y.trans z).trans t).trans t2).trans t3)⟩⟩⟩⟩⟩
/-- a if t else b -/
theorem de_if (ht : DT X H0 ρ c p) (ha : p = true → DE X H0 ρ a da) (hb : p = false → DE X H0 ρ b db) : DE X H0 ρ (.IfExp c a b pos) (if p = true then da else db) :=
  (pe_ifExp ht (PE.given ha) (PE.given hb)).imp fun σ H Q ⟨G, x, sl, k⟩ => ⟨G, x, sl, fun G1 H1 y => by
    cases p with
    | true => rw [if_pos rfl]; exact ⟨rfl, G1, y.gh, sl.up y, fun v G2 H2 z r => k v G2 H2 (y.trans z) r⟩
    | false => rw [if_neg Bool.false_ne_true]; exact ⟨rfl, G1, y.gh, sl.up y, fun v G2 H2 z r => k v G2 H2 (y.trans z) r⟩⟩
theorem de_ifS (ht : DT X H0 ρ c p) (ha : p = true → DE X H0 ρ a d) (hb : p = false → DE X H0 ρ b d) : DE X H0 ρ (.IfExp c a b pos) d := by
  have h := de_if (pos := pos) ht ha hb
  rwa [ite_self] at h
theorem dl_ifS (ht : DT X H0 ρ c p) (ha : p = true → DL X H0 ρ a ds) (hb : p = false → DL X H0 ρ b ds) : DL X H0 ρ (.IfExp c a b pos) ds :=
  (pe_ifExp ht (PE.given ha) (PE.given hb)).imp fun σ H Q ⟨G, x, sl, k⟩ => ⟨G, x, sl, fun G1 H1 y => by
    cases p with
    | true => rw [if_pos rfl]; exact ⟨rfl, G1, y.gh, sl.up y, fun v vs G2 H2 z n n2 hp r => k v vs G2 H2 (y.trans z) (y.h.back n) n2 hp r⟩
    | false => rw [if_neg Bool.false_ne_true]; exact ⟨rfl, G1, y.gh, sl.up y, fun v vs G2 H2 z n n2 hp r => k v vs G2 H2 (y.trans z) (y.h.back n) n2 hp r⟩⟩

/-! ### comparisons of data -/
def small (d : D) : Prop := d.plain = true ∧ d.depth ≤ 50
def rEqP (K : PySem.W.Frag) : R2 := fun x y H Q => ∃ d e, Dp K H x d ∧ Dp K H y e ∧ d.plain = true ∧ e.plain = true ∧ (d.depth ≤ 50 ∨ e.depth ≤ 50) ∧ Q (.bl (PyData.eqv d e)) H
def rNeP (K : PySem.W.Frag) : R2 := fun x y H Q => ∃ d e, Dp K H x d ∧ Dp K H y e ∧ d.plain = true ∧ e.plain = true ∧ (d.depth ≤ 50 ∨ e.depth ≤ 50) ∧ Q (.bl (!PyData.eqv d e)) H
theorem min50 {m n u : Nat} (h : m ≤ 50 ∨ n ≤ 50) (hu : u + 64 < cLine) : u + min m n < cLine := by
  rcases h with h | h <;> omega
theorem op_eqP (hu : X.A.units + 64 < cLine) : OpR X (compareOp .Eq) (rEqP X.K) := by
  intro pins s σ H x y v u Q I rx ry h
  obtain ⟨d, e, hd, he, pd, pe, hm, q⟩ := h
  obtain ⟨as, r1⟩ := Dp.reads I d x v hd rx
  obtain ⟨bs, r2⟩ := Dp.reads I e y u he ry
  exact SeqAt.eq_plain r1 r2 pd pe (min50 hm hu) ⟨.bl _, H, I, rfl, q⟩
theorem op_neP (hu : X.A.units + 64 < cLine) : OpR X (compareOp .NotEq) (rNeP X.K) := by
  intro pins s σ H x y v u Q I rx ry h
  obtain ⟨d, e, hd, he, pd, pe, hm, q⟩ := h
  obtain ⟨as, r1⟩ := Dp.reads I d x v hd rx
  obtain ⟨bs, r2⟩ := Dp.reads I e y u he ry
  exact SeqAt.ne_plain r1 r2 pd pe (min50 hm hu) ⟨.bl _, H, I, rfl, q⟩
theorem od_eqP (h1 : da.plain = true) (h2 : db.plain = true) (hm : da.depth ≤ 50 ∨ db.depth ≤ 50) : OpD X (rEqP X.K) da db (.bool (PyData.eqv da db)) := fun x y G H Q e r1 r2 q => ⟨da, db, r1.up e, r2.up e, h1, h2, hm, q _ G H (Ext.refl e) (.bl _)⟩
theorem od_neP (h1 : da.plain = true) (h2 : db.plain = true) (hm : da.depth ≤ 50 ∨ db.depth ≤ 50) : OpD X (rNeP X.K) da db (.bool (!PyData.eqv da db)) := fun x y G H Q e r1 r2 q => ⟨da, db, r1.up e, r2.up e, h1, h2, hm, q _ G H (Ext.refl e) (.bl _)⟩
def rLtP (K : PySem.W.Frag) : R2 := fun x y H Q => ∃ d e, Dp K H x d ∧ Dp K H y e ∧ PySem.W.alike d e = true ∧ d ≠ .none ∧ (d.depth ≤ 50 ∨ e.depth ≤ 50) ∧ Q (.bl (PySem.W.dataLt d e)) H
def rGtP (K : PySem.W.Frag) : R2 := fun x y H Q => ∃ d e, Dp K H x d ∧ Dp K H y e ∧ PySem.W.alike d e = true ∧ d ≠ .none ∧ (d.depth ≤ 50 ∨ e.depth ≤ 50) ∧ Q (.bl (PySem.W.dataLt e d)) H
theorem op_ltP (hu : X.A.units + 64 < cLine) : OpR X (compareOp .Lt) (rLtP X.K) := by
  intro pins s σ H x y v u Q I rx ry h
  obtain ⟨d, e, hd, he, al, nn, hm, q⟩ := h
  obtain ⟨as, r1⟩ := Dp.reads I d x v hd rx
  obtain ⟨bs, r2⟩ := Dp.reads I e y u he ry
  exact PySem.W.lt_data r1 r2 al nn (min50 hm hu) ⟨.bl _, H, I, rfl, q⟩
theorem op_gtP (hu : X.A.units + 64 < cLine) : OpR X (compareOp .Gt) (rGtP X.K) := by
  intro pins s σ H x y v u Q I rx ry h
  obtain ⟨d, e, hd, he, al, nn, hm, q⟩ := h
  obtain ⟨as, r1⟩ := Dp.reads I d x v hd rx
  obtain ⟨bs, r2⟩ := Dp.reads I e y u he ry
  exact PySem.W.gt_data r1 r2 al nn (min50 hm hu) ⟨.bl _, H, I, rfl, q⟩
theorem od_ltP (h1 : PySem.W.alike da db = true) (h2 : da ≠ .none) (hm : da.depth ≤ 50 ∨ db.depth ≤ 50) : OpD X (rLtP X.K) da db (.bool (PySem.W.dataLt da db)) := fun x y G H Q e r1 r2 q => ⟨da, db, r1.up e, r2.up e, h1, h2, hm, q _ G H (Ext.refl e) (.bl _)⟩
theorem od_gtP (h1 : PySem.W.alike da db = true) (h2 : da ≠ .none) (hm : da.depth ≤ 50 ∨ db.depth ≤ 50) : OpD X (rGtP X.K) da db (.bool (PySem.W.dataLt db da)) := fun x y G H Q e r1 r2 q => ⟨da, db, r1.up e, r2.up e, h1, h2, hm, q _ G H (Ext.refl e) (.bl _)⟩
/-- x in c, c a list or a tuple -/
def rInP (K : PySem.W.Frag) (neg : Bool) : R2 := fun x y H Q => ∃ d xs, Dp K H x d ∧ (Dp K H y (.list xs) ∨ Dp K H y (.tuple xs)) ∧ PyData.plainAll xs = true ∧ d.plain = true ∧ (PyData.depthAll xs ≤ 50 ∨ d.depth ≤ 50) ∧ Q (.bl (if neg then !(xs.any fun z => PyData.eqv z d) else xs.any fun z => PyData.eqv z d)) H
theorem min51 {m n u : Nat} (h : m ≤ 50 ∨ n ≤ 50) (hu : u + 64 < cLine) : u + 1 + min m n < cLine := by
  rcases h with h | h <;> omega
theorem op_inP (hu : X.A.units + 64 < cLine) : OpR X (compareOp .In) (rInP X.K false) := by
  intro pins s σ H x y v u Q I rx ry h
  obtain ⟨d, xs, hd, he, px, pd, hm, q⟩ := h
  obtain ⟨as, r1⟩ := Dp.reads I d x v hd rx
  rcases he with he | he
  · obtain ⟨bs, r2⟩ := Dp.reads I _ y u he ry
    exact SeqAt.in_list_data r2 r1 px pd (min51 hm hu) ⟨.bl _, H, I, rfl, q⟩
  · obtain ⟨bs, r2⟩ := Dp.reads I _ y u he ry
    exact SeqAt.in_tuple_data r2 r1 px pd (min51 hm hu) ⟨.bl _, H, I, rfl, q⟩
theorem op_ninP (hu : X.A.units + 64 < cLine) : OpR X (compareOp .NotIn) (rInP X.K true) := by
  intro pins s σ H x y v u Q I rx ry h
  obtain ⟨d, xs, hd, he, px, pd, hm, q⟩ := h
  obtain ⟨as, r1⟩ := Dp.reads I d x v hd rx
  rcases he with he | he
  · obtain ⟨bs, r2⟩ := Dp.reads I _ y u he ry
    exact SeqAt.notIn_list_data r2 r1 px pd (min51 hm hu) ⟨.bl _, H, I, rfl, q⟩
  · obtain ⟨bs, r2⟩ := Dp.reads I _ y u he ry
    exact SeqAt.notIn_tuple_data r2 r1 px pd (min51 hm hu) ⟨.bl _, H, I, rfl, q⟩
theorem od_inP {neg : Bool} {xs : List D} (h1 : PyData.plainAll xs = true) (h2 : d.plain = true) (hm : PyData.depthAll xs ≤ 50 ∨ d.depth ≤ 50) : OpD X (rInP X.K neg) d (.tuple xs) (.bool (if neg then !(xs.any fun z => PyData.eqv z d) else xs.any fun z => PyData.eqv z d)) :=
  fun x y G H Q e r1 r2 q => ⟨d, xs, r1.up e, .inr (r2.up e), h1, h2, hm, q _ G H (Ext.refl e) (.bl _)⟩
/-- the right one a list that can be read -/
def OpDR (X : Cx) (r : R2) (da : D) (xs : List D) (dc : D) : Prop := ∀ x p vs G H Q, Ex G H → Dp X.K G x da → SqL X.K H p vs → DpAll X.K G vs xs → (∀ v G2 H2, Ext G H G2 H2 → Dp X.K G2 v dc → Q v H2) → r x (.ref p) H Q
theorem tOpDR {r : R2} {xs : List D} (hr : OpDR X r da xs dc) : ∀ σ H Q, tD X.K H0 ρ dc σ H Q → tOp r (tD X.K H0 ρ da) (tR X.K H0 ρ xs) σ H Q := fun σ H Q ⟨G, x, sl, q⟩ =>
  ⟨G, x, sl, fun v G1 H1 y r1 => ⟨G1, y.gh, sl.up y, fun p vs G2 H2 z h r2 => hr v p vs G2 H2 Q z.gh (r1.up z.g) h r2 fun w G3 H3 t r3 => q w G3 H3 ((y.trans z).trans t) r3⟩⟩
theorem od_inR {neg : Bool} {xs : List D} (h1 : PyData.plainAll xs = true) (h2 : d.plain = true) (hm : PyData.depthAll xs ≤ 50 ∨ d.depth ≤ 50) : OpDR X (rInP X.K neg) d xs (.bool (if neg then !(xs.any fun z => PyData.eqv z d) else xs.any fun z => PyData.eqv z d)) :=
  fun x p vs G H Q e r1 h r2 q => ⟨d, xs, r1.up e, .inl (.lst h (r2.up e)), h1, h2, hm, q _ G H (Ext.refl e) (.bl _)⟩
theorem de_cmpR {op : CmpOp} {r : R2} {xs : List D} (ho : OpR X (compareOp op) r) (hr : OpDR X r da xs dc) (ha : DE X H0 ρ a da) (hb : DR X H0 ρ b xs) (hm : behindInMarks op b = false := by first | exact nomark _ | rfl) : DE X H0 ρ (.Compare a [op] [b] pos) dc :=
  (pe_cmpR ho ha hb hm).imp (tOpDR hr)
theorem dt_cmpR {op : CmpOp} {r : R2} {xs : List D} {k : Bool} (ho : OpR X (compareOp op) r) (hr : OpDR X r da xs (.bool k)) (ha : DE X H0 ρ a da) (hb : DR X H0 ρ b xs) (hm : behindInMarks op b = false := by first | exact nomark _ | rfl) : DT X H0 ρ (.Compare a [op] [b] pos) k :=
  (pt_cmpR ho ha hb hm).imp fun σ H Q ⟨G, x, sl, q⟩ => tOpDR (H0 := H0) (ρ := ρ) hr σ H (fun x H' => ∃ k, x = .bl k ∧ Q k H') ⟨G, x, sl, fun v G2 H2 y r => ⟨k, dp_bool r, q G2 H2 y⟩⟩
/-- the left one a list that can be read: xs == [], xs != [..] -/
def OpDL (X : Cx) (r : R2) (xs : List D) (db dc : D) : Prop := ∀ y p vs G H Q, Ex G H → SqL X.K H p vs → DpAll X.K G vs xs → Dp X.K G y db → (∀ v G2 H2, Ext G H G2 H2 → Dp X.K G2 v dc → Q v H2) → r (.ref p) y H Q
theorem tOpDL {r : R2} {xs : List D} (hr : OpDL X r xs db dc) : ∀ σ H Q, tD X.K H0 ρ dc σ H Q → tOp r (tR X.K H0 ρ xs) (tD X.K H0 ρ db) σ H Q := fun σ H Q ⟨G, x, sl, q⟩ =>
  ⟨G, x, sl, fun p vs G1 H1 y h r1 => ⟨G1, y.gh, sl.up y, fun v G2 H2 z r2 => hr v p vs G2 H2 Q z.gh (z.h.seqL h) (r1.up z.g) r2 fun w G3 H3 t r3 => q w G3 H3 ((y.trans z).trans t) r3⟩⟩
theorem de_cmpL {op : CmpOp} {r : R2} {xs : List D} (ho : OpR X (compareOp op) r) (hr : OpDL X r xs db dc) (ha : DR X H0 ρ a xs) (hb : DE X H0 ρ b db) (hm : behindInMarks op b = false := by first | exact nomark _ | rfl) : DE X H0 ρ (.Compare a [op] [b] pos) dc :=
  (pe_cmpR ho ha hb hm).imp (tOpDL hr)
theorem dt_cmpL {op : CmpOp} {r : R2} {xs : List D} {k : Bool} (ho : OpR X (compareOp op) r) (hr : OpDL X r xs db (.bool k)) (ha : DR X H0 ρ a xs) (hb : DE X H0 ρ b db) (hm : behindInMarks op b = false := by first | exact nomark _ | rfl) : DT X H0 ρ (.Compare a [op] [b] pos) k :=
  (pt_cmpR ho ha hb hm).imp fun σ H Q ⟨G, x, sl, q⟩ => tOpDL (H0 := H0) (ρ := ρ) hr σ H (fun x H' => ∃ k, x = .bl k ∧ Q k H') ⟨G, x, sl, fun v G2 H2 y r => ⟨k, dp_bool r, q G2 H2 y⟩⟩
theorem od_eqL {xs : List D} (h1 : PyData.plainAll xs = true) (h2 : db.plain = true) (hm : (PyData.list xs).depth ≤ 50 ∨ db.depth ≤ 50) : OpDL X (rEqP X.K) xs db (.bool (PyData.eqv (.list xs) db)) := fun y p vs G H Q e h r1 r2 q =>
  ⟨.list xs, db, .lst h (r1.up e), r2.up e, by simp only [PyData.plain]; exact h1, h2, hm, q _ G H (Ext.refl e) (.bl _)⟩
theorem od_neL {xs : List D} (h1 : PyData.plainAll xs = true) (h2 : db.plain = true) (hm : (PyData.list xs).depth ≤ 50 ∨ db.depth ≤ 50) : OpDL X (rNeP X.K) xs db (.bool (!PyData.eqv (.list xs) db)) := fun y p vs G H Q e h r1 r2 q =>
  ⟨.list xs, db, .lst h (r1.up e), r2.up e, by simp only [PyData.plain]; exact h1, h2, hm, q _ G H (Ext.refl e) (.bl _)⟩
/-- one sign, or any text, in a text -/
theorem od_inS {x y : Str} : OpD X (fun x y H Q => ∃ i j, x = .str i ∧ y = .str j ∧ Q (.bl (!(Builtin.Str.occurrences j i 0 j.length 1).isEmpty)) H) (.str x) (.str y) (.bool (!(Builtin.Str.occurrences y x 0 y.length 1).isEmpty)) :=
  fun v u G H Q e r1 r2 q => ⟨x, y, dp_str r1, dp_str r2, q _ G H (Ext.refl e) (.bl _)⟩
/-- is None, is not None, is True .. -/
def isNone : D → Bool
  | .none => true
  | _ => false
theorem isNone_v {K : PySem.W.Frag} {G : Hp} {x : V} (r : Dp K G x d) : decide (x = V.non) = isNone d := by
  cases r <;> first | rfl | (exact decide_eq_false (fun q => by cases q))
theorem od_isN : OpD X (fun x y H Q => y = .non ∧ Q (.bl (decide (x = .non))) H) d .none (.bool (isNone d)) := fun x y G H Q e r1 r2 q => ⟨dp_none r2, by rw [isNone_v r1]; exact q _ G H (Ext.refl e) (.bl _)⟩
theorem od_notN : OpD X (fun x y H Q => y = .non ∧ Q (.bl (!decide (x = .non))) H) d .none (.bool (!isNone d)) := fun x y G H Q e r1 r2 q => ⟨dp_none r2, by rw [isNone_v r1]; exact q _ G H (Ext.refl e) (.bl _)⟩

/-! ### calls of built-ins -/
theorem tCBD {r : List V → Hp → VK → Prop} (hr : CallD X r ds dc) : ∀ σ H Q, tD X.K H0 ρ dc σ H Q → tCB r (tAs X.K H0 ρ ds) σ H Q := fun σ H Q ⟨G, x, sl, q⟩ =>
  ⟨G, x, sl, fun vs G1 H1 y rs => hr vs G1 H1 Q y.gh rs fun w G3 H3 t r3 => q w G3 H3 (y.trans t) r3⟩
theorem de_callB {x : Str} {id : String} {r : List V → Hp → VK → Prop} (hc : CallR X (.builtin id) r) (hr : CallD X r ds dc) (hg : Gl X x) (hm : X.mg x = none) (hv : bootBuiltins x = some (.builtin id)) (ha : DA X H0 ρ (e :: es) ds) (hn : x ≠ "__name__" := by decide) (hdb : (x == ("__debug__" : Str)) = false := by decide)
    (he : starEach (e :: es) X.env = (false, eval e X.env) :: starEach es X.env := by rfl) (hpl : (backTo pos (starEach es X.env)).any (·.1) = false := by rfl) : DE X H0 ρ (.Call (.Name x p1) (e :: es) [] pos) dc := (pe_callB hc hg hm hv ha hn hdb he hpl).imp (tCBD hr)
theorem de_callTy {x : Str} {T : String} {r : List V → Hp → VK → Prop} (hc : CallR X (.type T) r) (hr : CallD X r ds dc) (hg : Gl X x) (hm : X.mg x = none) (hv : bootBuiltins x = some (.type T)) (ha : DA X H0 ρ (e :: es) ds) (hn : x ≠ "__name__" := by decide) (hdb : (x == ("__debug__" : Str)) = false := by decide)
    (he : starEach (e :: es) X.env = (false, eval e X.env) :: starEach es X.env := by rfl) (hpl : (backTo pos (starEach es X.env)).any (·.1) = false := by rfl) : DE X H0 ρ (.Call (.Name x p1) (e :: es) [] pos) dc := (pe_callTy hc hg hm hv ha hn hdb he hpl).imp (tCBD hr)
/-- one argument, a list that can be read -/
def CallDR (X : Cx) (r : List V → Hp → VK → Prop) (xs : List D) (dc : D) : Prop := ∀ p vs G H Q, Ex G H → SqL X.K H p vs → DpAll X.K G vs xs → (∀ v G2 H2, Ext G H G2 H2 → Dp X.K G2 v dc → Q v H2) → r [.ref p] H Q
def CallDRL (X : Cx) (r : List V → Hp → VK → Prop) (xs ys : List D) : Prop := ∀ p vs G H Q, Ex G H → SqL X.K H p vs → DpAll X.K G vs xs → (∀ l ws G2 H2, Ext G H G2 H2 → H l = none → G2 l = none → H2 l = some (.lst ws) → DpAll X.K G2 ws ys → Q (.ref l) H2) → r [.ref p] H Q
theorem pa_one {t : TE} (ha : PE X e t) (hs : starEach (e :: []) X.env = (false, eval e X.env) :: starEach [] X.env := by rfl) : PA X [e] (tCons t tNil) := pa_cons ha pa_nil hs
section
variable {x : Str} {id T : String} {r : List V → Hp → VK → Prop} {xs ys : List D}
theorem de_callBR (hc : CallR X (.builtin id) r) (hr : CallDR X r xs dc) (hg : Gl X x) (hm : X.mg x = none) (hv : bootBuiltins x = some (.builtin id)) (ha : DR X H0 ρ e xs) (hn : x ≠ "__name__" := by decide) (hdb : (x == ("__debug__" : Str)) = false := by decide)
    (he : starEach (e :: []) X.env = (false, eval e X.env) :: starEach [] X.env := by rfl) (hpl : (backTo pos (starEach [] X.env)).any (·.1) = false := by rfl) : DE X H0 ρ (.Call (.Name x p1) [e] [] pos) dc :=
  (pe_callB hc hg hm hv (pa_one ha he) hn hdb he hpl).imp fun σ H Q ⟨G, x, sl, q⟩ => ⟨G, x, sl, fun p vs G1 H1 y h rs => hr p vs G1 H1 Q y.gh h rs fun w G3 H3 t r3 => q w G3 H3 (y.trans t) r3⟩
theorem de_callTyR (hc : CallR X (.type T) r) (hr : CallDR X r xs dc) (hg : Gl X x) (hm : X.mg x = none) (hv : bootBuiltins x = some (.type T)) (ha : DR X H0 ρ e xs) (hn : x ≠ "__name__" := by decide) (hdb : (x == ("__debug__" : Str)) = false := by decide)
    (he : starEach (e :: []) X.env = (false, eval e X.env) :: starEach [] X.env := by rfl) (hpl : (backTo pos (starEach [] X.env)).any (·.1) = false := by rfl) : DE X H0 ρ (.Call (.Name x p1) [e] [] pos) dc :=
  (pe_callTy hc hg hm hv (pa_one ha he) hn hdb he hpl).imp fun σ H Q ⟨G, x, sl, q⟩ => ⟨G, x, sl, fun p vs G1 H1 y h rs => hr p vs G1 H1 Q y.gh h rs fun w G3 H3 t r3 => q w G3 H3 (y.trans t) r3⟩
theorem dl_callBR (hc : CallR X (.builtin id) r) (hr : CallDRL X r xs ys) (hg : Gl X x) (hm : X.mg x = none) (hv : bootBuiltins x = some (.builtin id)) (ha : DR X H0 ρ e xs) (hn : x ≠ "__name__" := by decide) (hdb : (x == ("__debug__" : Str)) = false := by decide)
    (he : starEach (e :: []) X.env = (false, eval e X.env) :: starEach [] X.env := by rfl) (hpl : (backTo pos (starEach [] X.env)).any (·.1) = false := by rfl) : DL X H0 ρ (.Call (.Name x p1) [e] [] pos) ys :=
  (pe_callB hc hg hm hv (pa_one ha he) hn hdb he hpl).imp fun σ H Q ⟨G, x, sl, q⟩ => ⟨G, x, sl, fun p vs G1 H1 y h rs => hr p vs G1 H1 Q y.gh h rs fun w ws G3 H3 t n n2 hp r3 => q w ws G3 H3 (y.trans t) (y.h.back n) n2 hp r3⟩
theorem dl_callTyR (hc : CallR X (.type T) r) (hr : CallDRL X r xs ys) (hg : Gl X x) (hm : X.mg x = none) (hv : bootBuiltins x = some (.type T)) (ha : DR X H0 ρ e xs) (hn : x ≠ "__name__" := by decide) (hdb : (x == ("__debug__" : Str)) = false := by decide)
    (he : starEach (e :: []) X.env = (false, eval e X.env) :: starEach [] X.env := by rfl) (hpl : (backTo pos (starEach [] X.env)).any (·.1) = false := by rfl) : DL X H0 ρ (.Call (.Name x p1) [e] [] pos) ys :=
  (pe_callTy hc hg hm hv (pa_one ha he) hn hdb he hpl).imp fun σ H Q ⟨G, x, sl, q⟩ => ⟨G, x, sl, fun p vs G1 H1 y h rs => hr p vs G1 H1 Q y.gh h rs fun w ws G3 H3 t n n2 hp r3 => q w ws G3 H3 (y.trans t) (y.h.back n) n2 hp r3⟩
end
/-! len -/
theorem cd_lenT {xs : List D} : CallD X (fun xs H Q => ∃ x n, xs = [x] ∧ LenV X.K x H n ∧ Q (.int n) H) [.tuple xs] (.int xs.length) := fun vs G H Q e rs q => by
  obtain ⟨v, r, rfl, r1, r2⟩ := rs.inv_cons
  obtain rfl := r2.inv_nil
  obtain ⟨p, ws, rfl, h1, h2⟩ := dp_tup r1
  exact ⟨_, xs.length, rfl, .inr ⟨ws, e.seqT h1, h2.length.symm⟩, q _ G H (Ext.refl e) (.int _)⟩
theorem cd_lenS {z : Str} (hz : z.length ≤ sizeLine) : CallD X (fun xs H Q => ∃ x n, xs = [x] ∧ LenV X.K x H n ∧ Q (.int n) H) [.str z] (.int z.length) := fun vs G H Q e rs q => by
  obtain ⟨v, r, rfl, r1, r2⟩ := rs.inv_cons
  obtain rfl := r2.inv_nil
  obtain rfl := dp_str r1
  exact ⟨_, z.length, rfl, ⟨hz, rfl⟩, q _ G H (Ext.refl e) (.int _)⟩
theorem cd_lenR {xs : List D} : CallDR X (fun xs H Q => ∃ x n, xs = [x] ∧ LenV X.K x H n ∧ Q (.int n) H) xs (.int xs.length) := fun p vs G H Q e h rs q =>
  ⟨_, xs.length, rfl, .inl ⟨vs, h, rs.length.symm⟩, q _ G H (Ext.refl e) (.int _)⟩
/-! all, any, sum of made lists -/
theorem cd_all {bs : List Bool} : CallDR X (rAll X.K) (bs.map .bool) (.bool (bs.all id)) := fun p vs G H Q e h rs q => ⟨p, bs, rfl, by rw [← dpAll_bools rs]; exact h, q _ G H (Ext.refl e) (.bl _)⟩
theorem cd_any {bs : List Bool} : CallDR X (rAny X.K) (bs.map .bool) (.bool (bs.any id)) := fun p vs G H Q e h rs q => ⟨p, bs, rfl, by rw [← dpAll_bools rs]; exact h, q _ G H (Ext.refl e) (.bl _)⟩
theorem cd_sum {ns : List Int} : CallDR X (rSum X.K) (ns.map .int) (.int ns.sum) := fun p vs G H Q e h rs q => ⟨p, ns, rfl, by rw [← dpAll_ints rs]; exact h, q _ G H (Ext.refl e) (.int _)⟩
/-! tuple(list), tuple(tuple), list(list), list(tuple) -/
abbrev rTupleOf (K : PySem.W.Frag) : List V → Hp → VK → Prop := fun xs H Q => ∃ p ys, xs = [.ref p] ∧ ((SqL K H p ys ∧ ∀ l, H l = none → Q (.ref l) (upd H l (.tup ys))) ∨ (SqT K H p ys ∧ Q (.ref p) H))
abbrev rListOf (K : PySem.W.Frag) : List V → Hp → VK → Prop := fun xs H Q => ∃ p ys, xs = [.ref p] ∧ (SqL K H p ys ∨ SqT K H p ys) ∧ ∀ l, H l = none → Q (.ref l) (upd H l (.lst ys))
theorem cd_tupleR {xs : List D} : CallDR X (rTupleOf X.K) xs (.tuple xs) := fun p vs G H Q e h rs q => ⟨p, vs, rfl, .inl ⟨h, fun l hl => q _ (upd G l (.tup vs)) _ (Ext.new e hl) (.tup (.inl (.inl upd_same)) (rs.up (Ex.new (e.back hl))))⟩⟩
theorem cd_tupleT {xs : List D} : CallD X (rTupleOf X.K) [.tuple xs] (.tuple xs) := fun vs G H Q e rs q => by
  obtain ⟨v, r, rfl, r1, r2⟩ := rs.inv_cons
  obtain rfl := r2.inv_nil
  obtain ⟨p, ws, rfl, h1, h2⟩ := dp_tup r1
  exact ⟨p, ws, rfl, .inr ⟨e.seqT h1, q _ G H (Ext.refl e) (.tup h1 h2)⟩⟩
theorem cd_listR {xs : List D} : CallDRL X (rListOf X.K) xs xs := fun p vs G H Q e h rs q => ⟨p, vs, rfl, .inl h, fun l hl => q l vs G _ (Ext.heap e (Ex.new hl)) hl (e.back hl) upd_same rs⟩
theorem dl_listT {x : Str} {xs : List D} (hg : Gl X x) (hm : X.mg x = none) (hv : bootBuiltins x = some (.type "list")) (ha : DE X H0 ρ e (.tuple xs)) (hn : x ≠ "__name__" := by decide) (hdb : (x == ("__debug__" : Str)) = false := by decide)
    (he : starEach (e :: []) X.env = (false, eval e X.env) :: starEach [] X.env := by rfl) (hpl : (backTo pos (starEach [] X.env)).any (·.1) = false := by rfl) : DL X H0 ρ (.Call (.Name x p1) [e] [] pos) xs :=
  (pe_callTy call_list_of hg hm hv (pa_one ha he) hn hdb he hpl).imp fun σ H Q ⟨G, x, sl, q⟩ => ⟨G, x, sl, fun v G1 H1 y r => by
    obtain ⟨p, ws, rfl, h1, h2⟩ := dp_tup r
    exact ⟨p, ws, rfl, .inr (y.gh.seqT h1), fun l hl => q l ws G1 _ (y.trans (Ext.heap y.gh (Ex.new hl))) (y.h.back hl) (y.gh.back hl) upd_same h2⟩⟩
/-! max, min of two ints -/
theorem cd_max2 {i j : Int} : CallD X (fun xs H Q => ∃ i j, xs = [.int i, .int j] ∧ Q (.int (if j > i then j else i)) H) [.int i, .int j] (.int (if j > i then j else i)) := fun vs G H Q e rs q => by
  obtain ⟨v, r, rfl, r1, r2⟩ := rs.inv_cons
  obtain ⟨v2, r, rfl, r3, r4⟩ := r2.inv_cons
  obtain rfl := r4.inv_nil
  obtain rfl := dp_int r1
  obtain rfl := dp_int r3
  exact ⟨i, j, rfl, q _ G H (Ext.refl e) (.int _)⟩
theorem cd_min2 {i j : Int} : CallD X (fun xs H Q => ∃ i j, xs = [.int i, .int j] ∧ Q (.int (if j < i then j else i)) H) [.int i, .int j] (.int (if j < i then j else i)) := fun vs G H Q e rs q => by
  obtain ⟨v, r, rfl, r1, r2⟩ := rs.inv_cons
  obtain ⟨v2, r, rfl, r3, r4⟩ := r2.inv_cons
  obtain rfl := r4.inv_nil
  obtain rfl := dp_int r1
  obtain rfl := dp_int r3
  exact ⟨i, j, rfl, q _ G H (Ext.refl e) (.int _)⟩
/-! int(True) -/
theorem cd_intB {k : Bool} : CallD X (fun xs H Q => (∃ i, xs = [.int i] ∧ Q (.int i) H) ∨ ∃ k, xs = [.bl k] ∧ Q (.int (if k then 1 else 0)) H) [.bool k] (.int (if k then 1 else 0)) := fun vs G H Q e rs q => by
  obtain ⟨v, r, rfl, r1, r2⟩ := rs.inv_cons
  obtain rfl := r2.inv_nil
  obtain rfl := dp_bool r1
  exact .inr ⟨k, rfl, q _ G H (Ext.refl e) (.int _)⟩

/-! ### isinstance -/
def rIsi (K : PySem.W.Frag) (T : String) (f : D → Bool) : List V → Hp → VK → Prop := fun xs H Q => ∃ x d, xs = [x, .ty T] ∧ Dp K H x d ∧ Q (.bl (f d)) H
theorem call_isi_of {T : String} {f : D → Bool} (h : ∀ {prog : Program} {w : World} {A : Around} {E : Value → Shared → Prop} {s : Shared} {v : Value} {d : PyData} {as : List Addr} {Q : Value → Shared → Prop}, Reads s.heap v d as → (∀ tk, s.toks ≤ tk → Q (.bool (f d)) { s with toks := tk }) → wpAny (model prog w) A (call (.builtin "isinstance") [v, .type T]) Q E s) :
    CallR X (.builtin "isinstance") (rIsi X.K T f) := by
  intro pins s σ H xs us Q I r hh
  obtain ⟨x, d, rfl, hd, q⟩ := hh
  obtain ⟨u1, u2, rfl, r1, r2⟩ := vals2 r
  obtain rfl : u2 = Value.type T := r2
  obtain ⟨as, rd⟩ := Dp.reads I d x u1 hd r1
  exact h rd fun tk _ => ⟨.bl _, H, I.tok tk, rfl, q⟩
theorem de_isi {T : String} {f : D → Bool} {y : Str} (hc : CallR X (.builtin "isinstance") (rIsi X.K T f)) (hg : Gl X "isinstance") (hm : X.mg "isinstance" = none) (hg2 : Gl X y) (hm2 : X.mg y = none) (hv2 : bootBuiltins y = some (.type T)) (ha : DE X H0 ρ a d)
    (hn2 : y ≠ "__name__" := by decide) (hd2 : (y == ("__debug__" : Str)) = false := by decide) (he : starEach (a :: [.Name y p2]) X.env = (false, eval a X.env) :: starEach [.Name y p2] X.env := by rfl) (he2 : starEach (.Name y p2 :: []) X.env = (false, eval (.Name y p2) X.env) :: starEach [] X.env := by rfl)
    (hpl : (backTo pos (starEach [.Name y p2] X.env)).any (·.1) = false := by rfl) : DE X H0 ρ (.Call (.Name "isinstance" p1) [a, .Name y p2] [] pos) (.bool (f d)) :=
  (pe_callB hc hg hm (by decide +kernel) (pa_cons ha (pa_cons (pe_bltn (v := .ty T) hg2 hm2 hv2 rfl hn2 hd2) pa_nil he2) he) (by decide) (by decide) he hpl).imp fun σ H Q ⟨G, x, sl, q⟩ => ⟨G, x, sl, fun v G1 H1 y r => ⟨v, d, rfl, r.up y.gh, q _ G1 H1 y (.bl _)⟩⟩
theorem ci_int : CallR X (.builtin "isinstance") (rIsi X.K "int" PyData.isInt) := call_isi_of PySem.W.isinstance_int_data
theorem ci_bool : CallR X (.builtin "isinstance") (rIsi X.K "bool" PyData.isBool) := call_isi_of PySem.W.isinstance_bool_data
theorem ci_str : CallR X (.builtin "isinstance") (rIsi X.K "str" PyData.isStr) := call_isi_of PySem.W.isinstance_str_data
theorem ci_tuple : CallR X (.builtin "isinstance") (rIsi X.K "tuple" PyData.isTuple) := call_isi_of PySem.W.isinstance_tuple_data
theorem ci_list : CallR X (.builtin "isinstance") (rIsi X.K "list" PyData.isList) := call_isi_of PySem.W.isinstance_list_data

/-! ### subscripts and slices -/
/-- t[i] -/
theorem od_ixT {xs : List D} {i : Int} (h : atI xs i = some d) : OpD X (rIxT X.K) (.tuple xs) (.int i) d := fun x y G H Q e r1 r2 q => by
  obtain ⟨p, ws, rfl, h1, h2⟩ := dp_tup r1
  obtain rfl := dp_int r2
  obtain ⟨j, hj, hd⟩ : ∃ j, ixN xs.length i = some j ∧ xs[j]? = some d := by
    unfold atI at h
    cases q : ixN xs.length i with
    | none => rw [q] at h; cases h
    | some j => rw [q] at h; exact ⟨j, rfl, h⟩
  obtain ⟨v, hv, rv⟩ := h2.at hd
  exact ⟨p, ws, i, v, rfl, rfl, e.seqT h1, by unfold atI; rw [h2.length, hj]; exact hv, q v G H (Ext.refl e) rv⟩
theorem de_ix {r : R2} (hr : IxR X r) (ho : OpD X r da db dc) (ha : DE X H0 ρ a da) (hb : DE X H0 ρ b db) (hs : PlainIx b := by exact fun _ _ => rfl) : DE X H0 ρ (.Subscript a b pos) dc := (pe_ix hr ha hb hs).imp (tOpD ho)
/-- xs[i] of a list that can be read -/
theorem de_ixR {xs : List D} {i : Int} (h : atI xs i = some d) (ha : DR X H0 ρ a xs) (hb : DE X H0 ρ b (.int i)) (hs : PlainIx b := by exact fun _ _ => rfl) : DE X H0 ρ (.Subscript a b pos) d :=
  (pe_ix ix_list ha hb hs).imp fun σ H Q ⟨G, x, sl, q⟩ => ⟨G, x, sl, fun p vs G1 H1 y h1 r1 => ⟨G1, y.gh, sl.up y, fun u G2 H2 z r2 => by
    obtain rfl := dp_int r2
    obtain ⟨j, hj, hd⟩ : ∃ j, ixN xs.length i = some j ∧ xs[j]? = some d := by
      unfold atI at h
      cases q : ixN xs.length i with
      | none => rw [q] at h; cases h
      | some j => rw [q] at h; exact ⟨j, rfl, h⟩
    obtain ⟨v, hv, rv⟩ := r1.at hd
    exact ⟨p, vs, i, v, rfl, rfl, z.h.seqL h1, by unfold atI; rw [r1.length, hj]; exact hv, q v G2 H2 (y.trans z) (rv.up z.g)⟩⟩⟩
/-- a slice's part -/
def tPt (K : PySem.W.Frag) (H0 : Bs) (ρ : Env) (o : Option Int) : TO := fun σ H Q => ∃ G, Ex G H ∧ Slots K H0 G H σ ρ ∧ ∀ G2 H2, Ext G H G2 H2 → Q o H2
abbrev DO (X : Cx) (H0 : Bs) (ρ : Env) (e : Option Expr) (o : Option Int) : Prop := PO X e (tPt X.K H0 ρ o)
theorem do_none : DO X H0 ρ none none := ⟨fun pins s σ H Q I ⟨G, x, sl, q⟩ => po_none.run pins s σ H Q I (q G H (Ext.refl x))⟩
theorem do_some {i : Int} (h : DE X H0 ρ e (.int i)) : DO X H0 ρ (some e) (some i) := ⟨fun pins s σ H Q I ⟨G, x, sl, q⟩ => (po_some h).run pins s σ H Q I ⟨G, x, sl, fun v G2 H2 y r => ⟨i, dp_int r, q G2 H2 y⟩⟩⟩
/-- what a slice keeps -/
def cutD {α : Type} (xs : List α) (lo hi : Option Int) : List α := (xs.drop (HT.sIx xs.length 0 lo)).take (HT.sIx xs.length xs.length hi - HT.sIx xs.length 0 lo)
theorem cutV_all {K : PySem.W.Frag} {G : Hp} {vs : List V} {ds : List D} (h : DpAll K G vs ds) (lo hi : Option Int) : DpAll K G (cutV vs lo hi) (cutD ds lo hi) := by
  unfold cutV cutD
  rw [h.length]
  exact (h.drop _).take _
theorem cutD_whole {α : Type} {xs : List α} {lo hi : Option Int} (h : HT.sIx xs.length 0 lo = 0 ∧ HT.sIx xs.length xs.length hi = xs.length) : cutD xs lo hi = xs := by
  unfold cutD
  rw [h.1, h.2, Nat.sub_zero, List.drop_zero, List.take_length]
variable {lo hi : Option Expr} {l u : Option Int}
theorem de_slT {xs : List D} (ha : DE X H0 ρ a (.tuple xs)) (hl : DO X H0 ρ lo l) (hu : DO X H0 ρ hi u) : DE X H0 ρ (.Subscript a (.Slice lo hi none p2) pos) (.tuple (cutD xs l u)) :=
  (pe_slice sl_tupA ha hl hu).imp fun σ H Q ⟨G, x, sl, q⟩ => ⟨G, x, sl, fun v G1 H1 y r => ⟨G1, y.gh, sl.up y, fun G2 H2 z => ⟨G2, z.gh, (sl.up y).up z, fun G3 H3 t => by
    obtain ⟨p, ws, rfl, h1, h2⟩ := dp_tup ((r.up z.g).up t.g)
    refine ⟨p, ws, rfl, t.gh.seqT h1, fun hw => ?_, fun _ n hn => ?_⟩
    · rw [h2.length] at hw
      exact q _ G3 H3 ((y.trans z).trans t) (by rw [cutD_whole hw]; exact .tup h1 h2)
    · exact q _ (upd G3 n (.tup (cutV ws l u))) _ (((y.trans z).trans t).trans (Ext.new t.gh hn)) (.tup (.inl (.inl upd_same)) ((cutV_all h2 l u).up (Ex.new (t.gh.back hn))))⟩⟩⟩
theorem dl_slR {xs : List D} (ha : DR X H0 ρ a xs) (hl : DO X H0 ρ lo l) (hu : DO X H0 ρ hi u) : DL X H0 ρ (.Subscript a (.Slice lo hi none p2) pos) (cutD xs l u) :=
  (pe_slice sl_list ha hl hu).imp fun σ H Q ⟨G, x, sl, q⟩ => ⟨G, x, sl, fun p vs G1 H1 y h1 r => ⟨G1, y.gh, sl.up y, fun G2 H2 z => ⟨G2, z.gh, (sl.up y).up z, fun G3 H3 t =>
    ⟨p, vs, rfl, (z.h.trans t.h).seqL h1, fun n hn => q n _ G3 _ (((y.trans z).trans t).trans (Ext.heap t.gh (Ex.new hn))) (((y.trans z).trans t).h.back hn) (t.gh.back hn) upd_same ((cutV_all ((r.up z.g).up t.g) l u))⟩⟩⟩⟩

/-! ### tuples and lists joined, repeated -/
theorem od_catT {xs ys : List D} (hz : xs.length + ys.length ≤ 100000) : OpD X (rCatA X.K) (.tuple xs) (.tuple ys) (.tuple (xs ++ ys)) := fun x y G H Q e r1 r2 q => by
  obtain ⟨p, ws, rfl, h1, h2⟩ := dp_tup r1
  obtain ⟨p', ws', rfl, h1', h2'⟩ := dp_tup r2
  refine ⟨p, p', ws, ws', rfl, rfl, e.seqT h1, e.seqT h1', by rw [h2.length, h2'.length]; exact Nat.le_trans hz (by decide), fun z => ?_, fun z z' => ?_, fun z z' n hn => ?_⟩
  · have : xs = [] := List.eq_nil_of_length_eq_zero (by rw [← h2.length, z]; rfl)
    subst this
    exact q _ G H (Ext.refl e) (.tup h1' h2')
  · have : ys = [] := List.eq_nil_of_length_eq_zero (by rw [← h2'.length, z']; rfl)
    subst this
    exact q _ G H (Ext.refl e) (by rw [List.append_nil]; exact .tup h1 h2)
  · exact q _ (upd G n (.tup (ws ++ ws'))) _ (Ext.new e hn) (.tup (.inl (.inl upd_same)) ((h2.app h2').up (Ex.new (e.back hn))))
theorem od_repT {xs : List D} {k : Int} (h0 : xs ≠ []) (h2 : 2 ≤ k) (hk : k ≤ 1000) (hx : xs.length ≤ 1000) : OpD X (rRepT X.K) (.tuple xs) (.int k) (.tuple (List.replicate k.toNat xs).flatten) := fun x y G H Q e r1 r2 q => by
  obtain ⟨p, ws, rfl, g1, g2⟩ := dp_tup r1
  obtain rfl := dp_int r2
  refine ⟨p, k, ws, rfl, rfl, e.seqT g1, fun z => h0 (List.eq_nil_of_length_eq_zero (by rw [← g2.length, z]; rfl)), h2, hk, by rw [g2.length]; exact hx, fun n hn => ?_⟩
  have all : ∀ m : Nat, DpAll X.K G (List.replicate m ws).flatten (List.replicate m xs).flatten := fun m => by
    induction m with
    | zero => exact .nil
    | succ m ih => rw [List.replicate_succ, List.replicate_succ, List.flatten_cons, List.flatten_cons]; exact g2.app ih
  exact q _ (upd G n (.tup (List.replicate k.toNat ws).flatten)) _ (Ext.new e hn) (.tup (.inl (.inl upd_same)) ((all _).up (Ex.new (e.back hn))))
end
end DL
/-! DL3: sorted; what is walked; comprehensions; statements; defs. -/
namespace L2
theorem PE.any {X : Cx} {e : PySem.Expr} : PE X e (fun σ H Q => ∃ t, PE X e t ∧ t σ H Q) := ⟨fun pins s σ H Q I ⟨t, h, q⟩ => h.run pins s σ H Q I q⟩
theorem PT.any {X : Cx} {e : PySem.Expr} : PT X e (fun σ H Q => ∃ t, PT X e t ∧ t σ H Q) := ⟨fun pins s σ H Q I ⟨t, h, q⟩ => h.run pins s σ H Q I q⟩
theorem PG.any {X : Cx} {e : PySem.Expr} : PG X e (fun v σ H Q => ∃ t, PG X e t ∧ t v σ H Q) := ⟨fun pins s σ H v u Q I r ⟨t, h, q⟩ => h.run pins s σ H v u Q I r q⟩
theorem PSs.any {X : Cx} {sts : List PySem.Stmt} : PSs X sts (fun D σ H => ∃ t, PSs X sts t ∧ t D σ H) := ⟨fun pins s σ H D I ⟨t, h, q⟩ => h.run pins s σ H D I q⟩
end L2
namespace DL
open PySem PySem.Spec PyProof.Rows L2

/-! ### sorted -/
section
variable {K : PySem.W.Frag} {G : Hp}
theorem dpAll_zip : ∀ {vs : List V} {ds : List D}, DpAll K G vs ds → ∀ p ∈ vs.zip ds, Dp K G p.1 p.2
  | _, _, .nil, p, h => by simp at h
  | _, _, .cons a b, p, h => by
    rw [List.zip_cons_cons] at h
    rcases List.mem_cons.mp h with e | h
    · subst e; exact a
    · exact dpAll_zip b p h
theorem dpAll_of : ∀ {zs : List (V × D)}, (∀ p ∈ zs, Dp K G p.1 p.2) → DpAll K G (zs.map (·.1)) (zs.map (·.2))
  | [], _ => .nil
  | p :: zs, h => .cons (h p List.mem_cons_self) (dpAll_of fun q hq => h q (List.mem_cons_of_mem _ hq))
theorem zip_snd {α β : Type} : ∀ {vs : List α} {ds : List β}, vs.length = ds.length → (vs.zip ds).map (·.2) = ds
  | [], [], _ => rfl
  | _ :: vs, d :: ds, h => by rw [List.zip_cons_cons, List.map_cons, zip_snd (by simpa using h)]
theorem each_vals {zs : List (V × D)} : ∀ {us : List Value}, PySem.W.EachIs (fun (u : Value) (p : V × D) => RelV p.1 u) us zs → Vals (zs.map (·.1)) us := by
  induction zs with
  | nil => intro us h; cases h; exact .nil
  | cons z zs ih => intro us h; cases h with | cons a b => exact .cons a (ih b)
theorem vals_each : ∀ {vs : List V} {ds : List D} {us : List Value}, Vals vs us → vs.length = ds.length → PySem.W.EachIs (fun (u : Value) (p : V × D) => RelV p.1 u) us (vs.zip ds)
  | _, [], _, .nil, _ => .nil
  | _, d :: ds, _, .cons r t, h => .cons r (vals_each t (by simpa using h))
theorem reads_each : ∀ {us : List Value} {zs : List (V × D)} {R : Value → (V × D) → Prop}, PySem.W.EachIs (fun (u : Value) (p : V × D) => RelV p.1 u) us zs → (∀ p ∈ zs, ∀ u, RelV p.1 u → R u p) → PySem.W.EachIs R us zs
  | _, _, _, .nil, _ => .nil
  | _, _, _, .cons r t, h => .cons (h _ List.mem_cons_self _ r) (reads_each t fun p hp => h p (List.mem_cons_of_mem _ hp))
end
def dsort (ds : List D) : List D := ds.mergeSort (PySem.W.dataLe false id)
def rSortP (K : PySem.W.Frag) : List V → Hp → VK → Prop := fun vs H Q => ∃ a ws ds, vs = [V.ref a] ∧ SqL K H a ws ∧ DpAll K H ws ds ∧ PySem.W.AllAlike ds ∧ PySem.W.Sortable ds ∧ (∀ d ∈ ds, d.depth ≤ 50) ∧
  ∀ (l : Addr) (zs : List (V × D)), H l = none → (∀ p ∈ zs, p ∈ ws.zip ds) → zs.map (·.2) = dsort ds → Q (.ref l) (upd H l (.lst (zs.map (·.1))))
theorem cr_sortP {X : Cx} (hu : X.A.units + 64 < cLine) : CallR X (.builtin "sorted") (rSortP X.K) := by
  intro pins s σ H vs us Q I r h
  obtain ⟨a, ws, ds, rfl, hs, hd, hal, hk, hdep, q⟩ := h
  obtain ⟨its, rv, hl, hz⟩ := I.list hs
  rw [Vals.ref1 r]
  have hlen : ws.length = ds.length := hd.length
  have e1 : PySem.W.EachIs (fun (u : Value) (p : V × D) => RelV p.1 u) its (ws.zip ds) := vals_each rv hlen
  have e2 : PySem.W.EachIs (fun (u : Value) (p : V × D) => ∃ as, Reads s.heap u p.2 as) its (ws.zip ds) := reads_each e1 fun p hp u ru => Dp.reads I _ _ _ (dpAll_zip hd p hp) ru
  have zs : (ws.zip ds).map (·.2) = ds := zip_snd hlen
  refine PySem.W.sorted_data (enc := fun p : V × D => p.2) hl.isList e1 e2 (by rw [zs]; exact hal) (by rw [zs]; exact hk) (by rw [List.length_zip, hlen, Nat.min_self]; rw [← hlen]; exact hz) (fun b hb => ?_) fun out ho1 ho2 => ?_
  · have : b.2 ∈ ds := by rw [← zs]; exact List.mem_map.mpr ⟨b, hb, rfl⟩
    have := hdep _ this
    omega
  · obtain ⟨ep, he'⟩ := PyProof.Rows.sortedAll_at s.heap its out.toArray
    have pm := List.mergeSort_perm (ws.zip ds) (PySem.W.dataLe false fun p : V × D => p.2)
    have hv := each_vals ho2
    have hlz : (((ws.zip ds).mergeSort (PySem.W.dataLe false fun p : V × D => p.2)).map (·.1)).length ≤ sizeLine := by
      rw [List.length_map, pm.length_eq, List.length_zip, hlen, Nat.min_self, ← hlen]; exact hz
    refine ⟨.ref _, upd H (s.heap.objs.size + 1) (.lst (((ws.zip ds).mergeSort (PySem.W.dataLe false fun p : V × D => p.2)).map (·.1))), I.laid (t' := s.toks) (fun _ _ => PyProof.Rows.sortedAll_old) (Nat.le_succ _) ⟨hlz, out, ep, hv, by simpa using he'⟩, rfl, q _ ((ws.zip ds).mergeSort (PySem.W.dataLe false fun p : V × D => p.2)) (I.hok.fresh (Nat.le_succ _)) (fun p hp => pm.mem_iff.mp hp) ?_⟩
    have hm := PySem.W.sort_maps (fun p : V × D => p.2) (r := PySem.W.dataLe false fun p : V × D => p.2) (s := PySem.W.dataLe false id) (l := ws.zip ds) (fun _ _ _ _ => rfl)
    rw [zs] at hm
    exact hm
theorem cd_sort {X : Cx} {xs : List D} (hal : PySem.W.AllAlike xs) (hk : PySem.W.Sortable xs) (hd : ∀ d ∈ xs, d.depth ≤ 50) : CallDRL X (rSortP X.K) xs (dsort xs) := fun p vs G H Q e h rs q =>
  ⟨p, vs, xs, rfl, h, rs.up e, hal, hk, hd, fun l zs hl hz hm => q l (zs.map (·.1)) G _ (Ext.heap e (Ex.new hl)) hl (e.back hl) upd_same (by rw [← hm]; exact dpAll_of fun p hp => dpAll_zip rs p (hz p hp))⟩

/-! ### what is walked -/
/-- J goes through the items, while what is settled stands -/
def WalkD (K : PySem.W.Frag) (G : Hp) (J : It) (items : List D) : Prop := ∃ Y, L2.Walk J items.length (fun H' => Ex G H') Y ∧
  ∀ i H' x H'' G', Y i H' x H'' → Ex G G' → Ex G' H' → ∃ G'' d, Ext G' H' G'' H'' ∧ items[i]? = some d ∧ Dp K G'' x d
def tI (K : PySem.W.Frag) (H0 : Bs) (ρ : Env) (items : List D) : TI := fun σ H R => ∃ G, Ex G H ∧ Slots K H0 G H σ ρ ∧ ∀ J G2 H2, Ext G H G2 H2 → WalkD K G2 J items → R J H2
abbrev DI (X : Cx) (H0 : Bs) (ρ : Env) (tg e : Expr) (items : List D) : Prop := PI X tg e (tI X.K H0 ρ items)
section
variable {X : Cx} {H0 : Bs} {ρ : Env} {tg e e2 : Expr} {ds es : List D} {pos p tpos : Pos} {elts : List Expr} {kk : Nat}
theorem wd_list {K : PySem.W.Frag} {G : Hp} {a : Addr} {vs : List V} (h : SqL K G a vs) (r : DpAll K G vs ds) : WalkD K G (Itl K a) ds := by
  rw [WalkD, ← r.length]
  refine ⟨_, walk_list.mono (fun H' e => e.seqL h) fun i H x H' _ _ y => y, fun i H' x H'' G' y e1 e2 => ?_⟩
  obtain ⟨rfl, hx⟩ := y
  obtain ⟨d, hd, rd⟩ := r.at' hx
  exact ⟨G', d, Ext.refl e2, hd, rd.up e1⟩
theorem wd_tup {K : PySem.W.Frag} {G : Hp} {a : Addr} {vs : List V} (h : SqT K G a vs) (r : DpAll K G vs ds) : WalkD K G (Itt K a) ds := by
  rw [WalkD, ← r.length]
  refine ⟨_, walk_tup.mono (fun H' e => e.seqT h) fun i H x H' _ _ y => y, fun i H' x H'' G' y e1 e2 => ?_⟩
  obtain ⟨rfl, hx⟩ := y
  obtain ⟨d, hd, rd⟩ := r.at' hx
  exact ⟨G', d, Ext.refl e2, hd, rd.up e1⟩
theorem di_list (h : DE X H0 ρ e (.list ds)) : DI X H0 ρ tg e ds := (pi_list h).imp fun σ H R ⟨G, x, sl, q⟩ => ⟨G, x, sl, fun v G1 H1 y r => by
  obtain ⟨a, vs, rfl, h1, h2⟩ := dp_lst r
  exact ⟨a, rfl, ⟨vs, y.gh.seqL h1⟩, q _ G1 H1 y (wd_list h1 h2)⟩⟩
theorem di_tup (h : DE X H0 ρ e (.tuple ds)) : DI X H0 ρ tg e ds := (pi_tup h).imp fun σ H R ⟨G, x, sl, q⟩ => ⟨G, x, sl, fun v G1 H1 y r => by
  obtain ⟨a, vs, rfl, h1, h2⟩ := dp_tup r
  exact ⟨a, rfl, ⟨vs, y.gh.seqT h1⟩, q _ G1 H1 y (wd_tup h1 h2)⟩⟩
theorem di_range {n : Int} (h : DA X H0 ρ [e] [.int n]) (hn : -(2 ^ 62) ≤ n ∧ n < 2 ^ 62) (hg : Gl X "range") (hm : X.mg "range" = none) (hs : starEach [e] X.env = [(false, eval e X.env)] := by rfl) :
    DI X H0 ρ tg (.Call (.Name "range" p) [e] [] pos) ((List.range n.toNat).map fun i => .int (i : Nat)) := (pi_range1 hg hm h hs).imp fun σ H R ⟨G, x, sl, q⟩ => ⟨G, x, sl, fun vs G1 H1 y r => by
  obtain ⟨v, t, rfl, r1, r2⟩ := r.inv_cons
  obtain rfl := r2.inv_nil
  obtain rfl := dp_int r1
  refine ⟨n, rfl, hn.1, hn.2, q _ G1 H1 y ?_⟩
  rw [WalkD, List.length_map, List.length_range]
  refine ⟨_, (walk_range (lo := 0)).mono (fun _ _ => trivial) fun i H x H' hi _ y => (⟨y, hi⟩ : _ ∧ i < n.toNat), fun i H' x H'' G' y e1 e2 => ?_⟩
  obtain ⟨⟨rfl, rfl⟩, hi⟩ := y
  exact ⟨G', .int (i : Nat), Ext.refl e2, by rw [List.getElem?_map, List.getElem?_range hi]; rfl, by show Dp X.K G' (V.int (0 + (i : Nat))) _; rw [Int.zero_add]; exact .int _⟩⟩
theorem di_range2 {m n : Int} (h : DA X H0 ρ [e, e2] [.int m, .int n]) (hn : -(2 ^ 62) ≤ m ∧ m < 2 ^ 62 ∧ -(2 ^ 62) ≤ n ∧ n < 2 ^ 62) (hg : Gl X "range") (hm : X.mg "range" = none) (hs : starEach [e, e2] X.env = [(false, eval e X.env), (false, eval e2 X.env)] := by rfl) (hs2 : starEach [e2] X.env = [(false, eval e2 X.env)] := by rfl) :
    DI X H0 ρ tg (.Call (.Name "range" p) [e, e2] [] pos) ((List.range (n - m).toNat).map fun i => .int (m + (i : Nat))) := (pi_range2 hg hm h hs hs2).imp fun σ H R ⟨G, x, sl, q⟩ => ⟨G, x, sl, fun vs G1 H1 y r => by
  obtain ⟨v, t, rfl, r1, r2⟩ := r.inv_cons
  obtain ⟨v2, t, rfl, r3, r4⟩ := r2.inv_cons
  obtain rfl := r4.inv_nil
  obtain rfl := dp_int r1
  obtain rfl := dp_int r3
  refine ⟨m, n, rfl, hn, q _ G1 H1 y ?_⟩
  rw [WalkD, List.length_map, List.length_range]
  refine ⟨_, (walk_range (lo := m)).mono (fun _ _ => trivial) fun i H x H' hi _ y => (⟨y, hi⟩ : _ ∧ i < (n - m).toNat), fun i H' x H'' G' y e1 e2 => ?_⟩
  obtain ⟨⟨rfl, rfl⟩, hi⟩ := y
  exact ⟨G', _, Ext.refl e2, by rw [List.getElem?_map, List.getElem?_range hi]; rfl, .int _⟩⟩
theorem wd_pair {K : PySem.W.Frag} {G : Hp} {J : It} {xs ys : List V} {n : Nat} (hn : n = min xs.length ys.length) {P : Hp → Prop} (w : L2.Walk J n P (YPair (fun i => xs[i]?) (fun i => ys[i]?))) (hp : ∀ H', Ex G H' → P H') (r1 : DpAll K G xs ds) (r2 : DpAll K G ys es) :
    WalkD K G J (List.zipWith (fun a b => .tuple [a, b]) ds es) := by
  have hl : (List.zipWith (fun a b => PyData.tuple [a, b]) ds es).length = n := by rw [List.length_zipWith, hn, r1.length, r2.length]
  rw [WalkD, hl]
  refine ⟨_, w.mono hp fun i H x H' hi _ y => y, fun i H' x H'' G' y e1 e2 => ?_⟩
  obtain ⟨T, u, v, rfl, hT, rfl, hu, hv⟩ := y
  obtain ⟨d, hd, rd⟩ := r1.at' hu
  obtain ⟨d2, hd2, rd2⟩ := r2.at' hv
  refine ⟨upd G' T (.tup [u, v]), .tuple [d, d2], Ext.new e2 hT, ?_, .tup (.inl (.inl upd_same)) (.cons ((rd.up e1).up (Ex.new (e2.back hT))) (.cons ((rd2.up e1).up (Ex.new (e2.back hT))) .nil))⟩
  rw [List.getElem?_zipWith, hd, hd2]
theorem walk_zipT {K : PySem.W.Frag} {a b : Addr} {xs ys : List V} {n : Nat} (hn : n = min xs.length ys.length) : L2.Walk (RZ.ItzT K a b) n (fun H => SqT K H a xs ∧ SqT K H b ys) (YPair (fun i => xs[i]?) (fun i => ys[i]?)) := by
  subst hn
  refine ⟨fun i _ hi q => ?_, fun _ q => ⟨xs, ys, q.1, q.2, by omega⟩, fun i H v H' _ q y => ?_⟩
  · have h1 : i < xs.length := by omega
    have h2 : i < ys.length := by omega
    exact ⟨xs, ys, xs[i], ys[i], q.1, q.2, by simp [h1], by simp [h2]⟩
  · obtain ⟨T, x, z, h1, h2, h3, h4, h5⟩ := y
    exact ⟨T, x, z, h1, h2, h3, h4 xs q.1, h5 ys q.2⟩
theorem di_zipT (h : DA X H0 ρ [e, e2] [.tuple ds, .tuple es]) (hg : Gl X "zip") (hm : X.mg "zip" = none) (hs : starEach (e :: [e2]) X.env = (false, eval e X.env) :: starEach [e2] X.env := by rfl) (hpl : (backTo pos (starEach [e2] X.env)).any (·.1) = false := by rfl) : DI X H0 ρ (.Tuple elts kk tpos) (.Call (.Name "zip" p) [e, e2] [] pos) (List.zipWith (fun a b => .tuple [a, b]) ds es) :=
  (RZ.pi_zipA hg hm h hs hpl).imp fun σ H R ⟨G, x, sl, q⟩ => ⟨G, x, sl, fun vs G1 H1 y r => by
  obtain ⟨v, t, rfl, r1, r2⟩ := r.inv_cons
  obtain ⟨v2, t, rfl, r3, r4⟩ := r2.inv_cons
  obtain rfl := r4.inv_nil
  obtain ⟨a, xs, rfl, g1, g2⟩ := dp_tup r1
  obtain ⟨b, ys, rfl, k1, k2⟩ := dp_tup r3
  exact ⟨a, b, xs, ys, rfl, .inr ⟨y.gh.seqT g1, y.gh.seqT k1, q _ G1 H1 y (wd_pair rfl (walk_zipT rfl) (fun H' e => ⟨e.seqT g1, e.seqT k1⟩) g2 k2)⟩⟩⟩
theorem di_zipL (h : DA X H0 ρ [e, e2] [.list ds, .list es]) (hg : Gl X "zip") (hm : X.mg "zip" = none) (hs : starEach (e :: [e2]) X.env = (false, eval e X.env) :: starEach [e2] X.env := by rfl) (hpl : (backTo pos (starEach [e2] X.env)).any (·.1) = false := by rfl) : DI X H0 ρ (.Tuple elts kk tpos) (.Call (.Name "zip" p) [e, e2] [] pos) (List.zipWith (fun a b => .tuple [a, b]) ds es) :=
  (RZ.pi_zipA hg hm h hs hpl).imp fun σ H R ⟨G, x, sl, q⟩ => ⟨G, x, sl, fun vs G1 H1 y r => by
  obtain ⟨v, t, rfl, r1, r2⟩ := r.inv_cons
  obtain ⟨v2, t, rfl, r3, r4⟩ := r2.inv_cons
  obtain rfl := r4.inv_nil
  obtain ⟨a, xs, rfl, g1, g2⟩ := dp_lst r1
  obtain ⟨b, ys, rfl, k1, k2⟩ := dp_lst r3
  exact ⟨a, b, xs, ys, rfl, .inl ⟨y.gh.seqL g1, y.gh.seqL k1, q _ G1 H1 y (wd_pair rfl (walk_zip rfl) (fun H' e => ⟨e.seqL g1, e.seqL k1⟩) g2 k2)⟩⟩⟩
/-- enumerate of a list -/
theorem di_enumL (h : DA X H0 ρ [e] [.list ds]) (hg : Gl X "enumerate") (hm : X.mg "enumerate" = none) (hs : starEach [e] X.env = [(false, eval e X.env)] := by rfl) : DI X H0 ρ (.Tuple elts kk tpos) (.Call (.Name "enumerate" p) [e] [] pos) (ds.zipIdx.map fun z => .tuple [.int (z.2 : Nat), z.1]) :=
  (pi_enum hg hm h hs).imp fun σ H R ⟨G, x, sl, q⟩ => ⟨G, x, sl, fun vs G1 H1 y r => by
  obtain ⟨v, t, rfl, r1, r2⟩ := r.inv_cons
  obtain rfl := r2.inv_nil
  obtain ⟨a, xs, rfl, g1, g2⟩ := dp_lst r1
  refine ⟨a, xs, rfl, y.gh.seqL g1, q _ G1 H1 y ?_⟩
  have hl : (ds.zipIdx.map fun z => PyData.tuple [.int (z.2 : Nat), z.1]).length = xs.length := by rw [List.length_map, List.length_zipIdx, g2.length]
  rw [WalkD, hl]
  refine ⟨_, walk_enum.mono (fun H' e => e.seqL g1) fun i H x H' hi _ y => y, fun i H' x H'' G' y e1 e2 => ?_⟩
  obtain ⟨T, u, v, rfl, hT, rfl, hu, hv⟩ := y
  obtain ⟨d, hd, rd⟩ := g2.at' hv
  obtain rfl := Option.some.inj hu
  refine ⟨upd G' T (.tup [_, v]), .tuple [.int (i : Nat), d], Ext.new e2 hT, ?_, .tup (.inl (.inl upd_same)) (.cons (.int _) (.cons ((rd.up e1).up (Ex.new (e2.back hT))) .nil))⟩
  rw [List.getElem?_map, List.getElem?_zipIdx, hd]
  simp⟩
end

/-! ### targets -/
/-- the target's slots js get the data: ρ' behind it -/
def tG (K : PySem.W.Frag) (H0 : Bs) (ρ : Env) (d : D) (ρ' : Env) (js : List Nat) : TG := fun v σ H Q => ∃ G, Ex G H ∧ Slots K H0 G H σ ρ ∧ Dp K G v d ∧ ∀ σ', Slots K H0 G H σ' ρ' → (∀ vs, (∀ j ∈ js, j ∈ vs) → wipe σ' vs = wipe σ vs) → Q σ' H
abbrev DG (X : Cx) (H0 : Bs) (ρ : Env) (tg : Expr) (d : D) (ρ' : Env) (js : List Nat) : Prop := PG X tg (tG X.K H0 ρ d ρ' js)
def tGs (K : PySem.W.Frag) (H0 : Bs) (ρ : Env) (ds : List D) (ρ' : Env) (js : List Nat) : TGs := fun vs σ H Q => ∃ G, Ex G H ∧ Slots K H0 G H σ ρ ∧ DpAll K G vs ds ∧ ∀ σ', Slots K H0 G H σ' ρ' → (∀ ws, (∀ j ∈ js, j ∈ ws) → wipe σ' ws = wipe σ ws) → Q σ' H
abbrev DGs (X : Cx) (H0 : Bs) (ρ : Env) (tgs : List Expr) (ds : List D) (ρ' : Env) (js : List Nat) : Prop := PGs X tgs (tGs X.K H0 ρ ds ρ' js)
theorem wipe_set0 {i : Nat} {x : Option V} : ∀ (vs : List Nat) (σ : L2.St), (wipe (σ.set i x) vs).set i none = (wipe σ vs).set i none
  | [], σ => by simp [wipe]
  | v :: vs, σ => by
    show ((wipe (σ.set i x) vs).set v none).set i none = ((wipe σ vs).set v none).set i none
    by_cases h : v = i
    · subst h
      rw [wipe_set0 vs σ]
    · rw [List.set_comm _ _ h, wipe_set0 vs σ, List.set_comm _ _ h]
theorem wipe_set {i : Nat} {x : Option V} : ∀ (vs : List Nat) (σ : L2.St), i ∈ vs → wipe (σ.set i x) vs = wipe σ vs
  | v :: vs, σ, h => by
    show (wipe (σ.set i x) vs).set v none = (wipe σ vs).set v none
    by_cases e : i = v
    · subst e; exact wipe_set0 vs σ
    · rcases List.mem_cons.mp h with h | h
      · exact absurd h e
      · rw [wipe_set vs σ h]
section
variable {X : Cx} {H0 : Bs} {ρ ρ1 ρ2 : Env} {d : D} {ds : List D} {e : Expr} {es : List Expr} {pos : Pos} {js js' : List Nat}
theorem dg_name {i : Nat} {x : Str} (hN : X.N.Nodup) (hi : X.N[i]? = some x := by rfl) (hx : Loc X.env.scope x := by first | exact .inl rfl | exact .inr rfl) (hf : X.fn x = true ∨ X.env.scope.names.lookup x = some .local := by first | exact .inl rfl | exact .inr rfl | assumption) :
    DG X H0 ρ (.Name x pos) d (ρ.set i (.dat d)) [i] := (pg_name hN hi hx hf).imp fun v σ H Q ⟨G, e, sl, r, q⟩ => q _ (sl.setD r) fun vs h => wipe_set vs σ (h i List.mem_cons_self)
theorem dgs_nil : DGs X H0 ρ [] [] ρ [] := ⟨fun pins s σ H vs us Q I r ⟨G, e, sl, rd, q⟩ => pgs_nil.run pins s σ H vs us Q I r ⟨rd.inv_nil, q σ sl fun _ _ => rfl⟩⟩
theorem dgs_cons (h1 : DG X H0 ρ e d ρ1 js) (h2 : DGs X H0 ρ1 es ds ρ2 js') (hs : (assignEach (e :: es) X.env).map (·.2) = assign e X.env :: (assignEach es X.env).map (·.2) := by rfl) : DGs X H0 ρ (e :: es) (d :: ds) ρ2 (js ++ js') :=
  ⟨fun pins s σ H vs us Q I r ⟨G, x, sl, rd, q⟩ => by
    obtain ⟨v, vr, rfl, r1, r2⟩ := rd.inv_cons
    exact (pgs_cons h1 h2 hs).run pins s σ H _ us Q I r ⟨v, vr, rfl, G, x, sl, r1, fun σ1 sl1 w1 => ⟨G, x, sl1, r2, fun σ2 sl2 w2 => q σ2 sl2 fun ws hw => (w2 ws fun j hj => hw j (List.mem_append_right _ hj)).trans (w1 ws fun j hj => hw j (List.mem_append_left _ hj))⟩⟩⟩
theorem dg_tup {k : Nat} (hc : X.calm = true) (h : DGs X H0 ρ es ds ρ1 js) (hn : (assignEach es X.env).length = ds.length := by rfl) (hst : (assignEach es X.env).findIdx? (·.1) = none := by rfl) : DG X H0 ρ (.Tuple es k pos) (.tuple ds) ρ1 js :=
  (pg_tup hc h hn hst).imp fun v σ H Q ⟨G, x, sl, r, q⟩ => by
    obtain ⟨a, xs, rfl, h1, h2⟩ := dp_tup r
    exact ⟨a, xs, rfl, x.seqT h1, h2.length, G, x, sl, h2, q⟩
end

/-! ### comprehensions -/
def wipeE (ρ : Env) : List Nat → Env
  | [] => ρ
  | v :: vs => (wipeE ρ vs).set v .un
theorem wipe_wipe : ∀ (vs : List Nat) (σ : L2.St), wipe (wipe σ vs) vs = wipe σ vs
  | [], _ => rfl
  | v :: vs, σ => by
    show (wipe ((wipe σ vs).set v none) vs).set v none = (wipe σ vs).set v none
    rw [wipe_set0, wipe_wipe vs σ]
theorem slots_wipe {K : PySem.W.Frag} {H0 : Bs} {G H : Hp} {σ : L2.St} {ρ : Env} (s : Slots K H0 G H σ ρ) : ∀ vs, Slots K H0 G H (wipe σ vs) (wipeE ρ vs)
  | [] => s
  | v :: vs => (slots_wipe s vs).setU v none
section
variable {X : Cx} {H0 : Bs} {ρ : Env} {tg iter elt : Expr} {ifs : List Expr} {scope : Scope} {own : List (Str × Nat)} {pos : Pos} {α : Type} {xs : List α} {enc : α → D}
/-- a clause's tests -/
abbrev DTs (X : Cx) (H0 : Bs) (ρ : Env) (ifs : List Expr) (b : Bool) : Prop := PTs X ifs (tT X.K H0 ρ b)
theorem dts_nil : DTs X H0 ρ [] true := ⟨fun pins s σ H Q I ⟨G, e, sl, q⟩ => pts_nil.run pins s σ H Q I (q G H (Ext.refl e))⟩
theorem dts_one {c : Expr} {b : Bool} (h : DT X H0 ρ c b) : DTs X H0 ρ [c] b := pts_one h
theorem filter_snoc {p : α → Bool} {g : α → D} {i : Nat} {x : α} (h : xs[i]? = some x) : (((xs.take (i + 1)).filter p).map g) = ((xs.take i).filter p).map g ++ (if p x = true then [g x] else []) := by
  rw [List.take_add_one, h, List.filter_append, List.map_append]
  congr 1
  cases hp : p x with
  | true => rw [if_pos rfl]; simp [hp]
  | false => rw [if_neg Bool.false_ne_true]; simp [hp]
/-- what a comprehension's block is given -/
structure Blk (X X' : Cx) : Prop where
  prog : X'.prog = X.prog
  w : X'.w = X.w
  K : X'.K = X.K
  mg : X'.mg = X.mg
  base : X'.base = X.base
  A : X'.A = X.A
  N : X'.N = X.N
  calm : X'.calm = X.calm
def lcG (X : Cx) (scope : Scope) (tg : Expr) : TG := fun v σ H Q => ∃ t, (∀ (s : Shared) (H : Hp) (C : Addr) (cl : List (Str × Addr)) (fp : List Addr), PG (X.blk s H scope (compEnvC scope cl C X.env) fp) tg t) ∧ t v σ H Q
def lcT (X : Cx) (scope : Scope) (ifs : List Expr) : TT := fun σ H Q => ∃ t, (∀ (s : Shared) (H : Hp) (C : Addr) (cl : List (Str × Addr)) (fp : List Addr), PTs (X.blk s H scope (compEnvC scope cl C X.env) fp) ifs t) ∧ t σ H Q
def lcE (X : Cx) (scope : Scope) (elt : Expr) : TE := fun σ H Q => ∃ t, (∀ (s : Shared) (H : Hp) (C : Addr) (cl : List (Str × Addr)) (fp : List Addr), PE (X.blk s H scope (compEnvC scope cl C X.env) fp) elt t) ∧ t σ H Q
/-- what a turn of a comprehension is asked: the slots behind the target, the tests, the element -/
def LcTurn (X : Cx) (H0 : Bs) (ρ : Env) (tg : Expr) (ifs : List Expr) (elt : Expr) (scope : Scope) (vs : List Nat) (d : D) (b : Bool) (r : D) : Prop :=
  ∃ ρ' js, (∀ j ∈ js, j ∈ vs) ∧ ∀ (s : Shared) (H : Hp) (C : Addr) (cl : List (Str × Addr)) (fp : List Addr), DG (X.blk s H scope (compEnvC scope cl C X.env) fp) H0 (wipeE ρ vs) tg d ρ' js ∧
    DTs (X.blk s H scope (compEnvC scope cl C X.env) fp) H0 ρ' ifs b ∧ (b = true → DE (X.blk s H scope (compEnvC scope cl C X.env) fp) H0 ρ' elt r)
theorem lc_reading (p : α → Bool) (g : α → D) (hz : xs.length ≤ 100000) {vs : List Nat} (hb : ∀ x ∈ xs, LcTurn X H0 ρ tg ifs elt scope vs (enc x) (p x) (g x)) :
    ∀ σ H Q, tL X.K H0 ρ ((xs.filter p).map g) σ H Q → tLc (tI X.K H0 ρ (xs.map enc)) (lcG X scope tg) (lcT X scope ifs) (lcE X scope elt) vs σ H Q := fun σ H Q ⟨G, e0, sl, q⟩ => by
  refine ⟨G, e0, sl, fun J G1 H1 y1 ⟨Y, w, hy⟩ Dl hD => ?_⟩
  have g1D : G1 Dl = none := y1.gh.back hD
  have e1 : Ex G1 (upd H1 Dl (.lst [])) := y1.gh.mut g1D
  refine lc_it (g := lcG X scope tg) (tt := lcT X scope ifs) (te := lcE X scope elt) (vs := vs) (σ := σ) (Qd := fun H' => Q (.ref Dl) H') w (fun i H' => ∃ G' acc, Ext G1 H1 G' H' ∧ G' Dl = none ∧ H' Dl = some (.lst acc) ∧ DpAll X.K G' acc (((xs.take i).filter p).map g))
    ⟨G1, [], Ext.heap y1.gh (Ex.new hD), g1D, upd_same, by simpa using DpAll.nil⟩ (fun i H' _ ⟨G', acc, x, _⟩ => x.g.trans x.gh) (fun i v H' H'' hi ⟨G', acc, x, gn, ha, ra⟩ hyv => ?_) (fun H' ⟨G', acc, x, gn, ha, ra⟩ => ?_)
  · rw [List.length_map] at hi
    obtain ⟨G2, d, x2, hd, rd⟩ := hy i H' v H'' G' hyv x.g x.gh
    have hx : xs[i]? = some xs[i] := List.getElem?_eq_getElem hi
    rw [List.getElem?_map, hx] at hd
    obtain rfl := Option.some.inj hd
    obtain ⟨ρ', js, hjs, hb'⟩ := hb xs[i] (List.getElem_mem hi)
    have x12 : Ext G1 H1 G2 H'' := x.trans x2
    refine ⟨tG X.K H0 (wipeE ρ vs) (enc xs[i]) ρ' js, fun s H C cl fp => (hb' s H C cl fp).1, G2, x2.gh, slots_wipe ((sl.up y1).up x12) vs, rd, fun σ' sl' hw => ⟨(hw vs hjs).trans (wipe_wipe vs σ), ?_⟩⟩
    refine ⟨tT X.K H0 ρ' (p xs[i]), fun s H C cl fp => (hb' s H C cl fp).2.1, G2, x2.gh, sl', fun G3 H3 x3 => ?_⟩
    have x13 := x12.trans x3
    have a3 : H3 Dl = some (.lst acc) := x3.h _ _ (x2.h _ _ ha)
    have n3 : G3 Dl = none := x3.keepN (x2.keepN gn ha) (x2.h _ _ ha)
    have r3 := (ra.up x2.g).up x3.g
    have hfs := filter_snoc (p := p) (g := g) hx
    cases hp : p xs[i] with
    | false =>
      show (if false = true then _ else _)
      rw [if_neg Bool.false_ne_true]
      rw [hp, if_neg Bool.false_ne_true, List.append_nil] at hfs
      exact ⟨G3, acc, x13, n3, a3, by rw [hfs]; exact r3⟩
    | true =>
      show (if true = true then _ else _)
      rw [if_pos rfl]
      rw [hp, if_pos rfl] at hfs
      refine ⟨tD X.K H0 ρ' (g xs[i]), fun s H C cl fp => (hb' s H C cl fp).2.2 hp, G3, x3.gh, sl'.up x3, fun u G4 H4 x4 r4 => ⟨acc, x4.h _ _ a3, ?_, G4, acc ++ [u], ?_, x4.keepN n3 a3, upd_same, ?_⟩⟩
      · rw [ra.length, List.length_map]
        exact Nat.lt_of_le_of_lt (Nat.le_trans (List.length_filter_le _ _) (by rw [List.length_take]; exact Nat.le_trans (Nat.min_le_right _ _) hz)) (by decide)
      · have x14 := x13.trans x4
        exact ⟨x14.g, x14.h.mut hD, x14.gh.mut (x4.keepN n3 a3), x14.nw, x14.nt⟩
      · rw [hfs]; exact (r3.up x4.g).app (DpAll.one r4)
  · rw [List.length_map, List.take_length] at ra
    exact q Dl acc G' H' (y1.trans x) (y1.h.back hD) gn ha ra
theorem dl_lc (p : α → Bool) (g : α → D) (hc : X.calm = true) (hN : X.N.Nodup) (hi : DI X H0 ρ tg iter (xs.map enc)) (ok : BlkOk X.N X.env.scope scope own) (hz : xs.length ≤ 100000) (hb : ∀ x ∈ xs, LcTurn X H0 ρ tg ifs elt scope (own.map (·.2)) (enc x) (p x) (g x))
    (hs : ∀ x, foldedSetIterable iter X.env x = pure x := by intro _; rfl) : DL X H0 ρ (.ListComp elt [⟨tg, iter, ifs, 0⟩] scope pos) ((xs.filter p).map g) :=
  (pe_lc (own := own) (wi := tI X.K H0 ρ (xs.map enc)) (g := lcG X scope tg) (tt := lcT X scope ifs) (te := lcE X scope elt) hc hN hi ok
    (fun s H C cl fp => ⟨fun pins s' σ H' v u Q I r ⟨t, h, q⟩ => (h s H C cl fp).run pins s' σ H' v u Q I r q⟩)
    (fun s H C cl fp => ⟨fun pins s' σ H' Q I ⟨t, h, q⟩ => (h s H C cl fp).run pins s' σ H' Q I q⟩)
    (fun s H C cl fp => ⟨fun pins s' σ H' Q I ⟨t, h, q⟩ => (h s H C cl fp).run pins s' σ H' Q I q⟩) hs).imp (lc_reading p g hz hb)
end
end DL
/-! DL4: statements over data; what a def promises of data. -/
namespace DL
open PySem PySem.Spec PyProof.Rows L2

/-- what is wanted behind a block: of the slots (next, break, continue), of what is returned, of the exception's name -/
structure DEnd where
  nx : Env → Prop := fun _ => False
  rt : Env → D → Prop
  ex : Str → Prop := fun _ => False
  bk : Env → Prop := fun _ => False
  ct : Env → Prop := fun _ => False
  /-- what is known of the slots where an exception leaves -/
  xs : Env → Prop := fun _ => True

/-- the entry's heaps and what an exception is wished to be -/
structure Fr0 where
  H0 : Bs
  G0 : Hp
  E : XK

section
variable (K : PySem.W.Frag) (mg : Str → Option Value) (F : Fr0)
def tS (ρ : Env) (N : DEnd) : TS := fun D σ H => ∃ G, Ext F.G0 F.H0.out G H ∧ Slots K F.H0 G H σ ρ ∧
  (∀ ρ' σ' G' H', N.nx ρ' → Ext F.G0 F.H0.out G' H' → Ex G G' → Slots K F.H0 G' H' σ' ρ' → D.nx σ' H') ∧
  (∀ ρ' σ' G' H', N.bk ρ' → Ext F.G0 F.H0.out G' H' → Ex G G' → Slots K F.H0 G' H' σ' ρ' → D.bk σ' H') ∧
  (∀ ρ' σ' G' H', N.ct ρ' → Ext F.G0 F.H0.out G' H' → Ex G G' → Slots K F.H0 G' H' σ' ρ' → D.ct σ' H') ∧
  (∀ ρ' σ' d v G' H', N.rt ρ' d → Ext F.G0 F.H0.out G' H' → Slots K F.H0 G' H' σ' ρ' → Dp K G' v d → D.rt v H') ∧
  (∀ n C G' H', N.ex n → mg n = some (.ref C) → Ext F.G0 F.H0.out G' H' → ∀ ρ' σ', N.xs ρ' → Slots K F.H0 G' H' σ' ρ' → F.E (.ref C) none H')
end
abbrev DS (X : Cx) (F : Fr0) (ρ : Env) (sts : List Stmt) (N : DEnd) : Prop := PSs X sts (tS X.K X.mg F ρ N)
abbrev TakesE (X : Cx) (F : Fr0) : Prop := L2N.Takes X (fun cls d _ H => F.E cls d H)

section
variable {X : Cx} {F : Fr0} {ρ ρ1 : Env} {e c a : Expr} {es : List Expr} {rest body b1 b2 : List Stmt} {st : Stmt} {d : D} {ds : List D} {N M : DEnd} {pos pos' p1 p2 : Pos} {p : Bool} {Mid : Env → Prop}
theorem ds_imp (h : DS X F ρ rest M) (h1 : ∀ ρ', M.nx ρ' → N.nx ρ') (h2 : ∀ ρ' d, M.rt ρ' d → N.rt ρ' d) (h3 : ∀ n, M.ex n → N.ex n) (h4 : ∀ ρ', M.bk ρ' → N.bk ρ') (h5 : ∀ ρ', M.ct ρ' → N.ct ρ') (h6 : ∀ ρ', M.xs ρ' → N.xs ρ' := by intro _ h; exact h) : DS X F ρ rest N :=
  h.imp fun D σ H ⟨G, x, sl, a1, a2, a3, a4, a5⟩ => ⟨G, x, sl, fun ρ' σ' G' H' q => a1 ρ' σ' G' H' (h1 _ q), fun ρ' σ' G' H' q => a2 ρ' σ' G' H' (h4 _ q), fun ρ' σ' G' H' q => a3 ρ' σ' G' H' (h5 _ q), fun ρ' σ' d v G' H' q => a4 ρ' σ' d v G' H' (h2 _ _ q), fun n C G' H' q hm x ρ' σ' z => a5 n C G' H' (h3 _ q) hm x ρ' σ' (h6 _ z)⟩
theorem ds_nil (h : N.nx ρ) : DS X F ρ [] N := pss_nil.imp fun D σ H ⟨G, x, sl, a1, _⟩ => a1 ρ σ G H h x (Ex.refl G) sl
theorem ds_pass (hr : DS X F ρ rest N) : DS X F ρ (.Pass pos :: rest) N := (pss_cons ps_pass hr).imp fun D σ H h => h
/-- the way on: later, what is settled only grows -/
theorem tS_up {K : PySem.W.Frag} {mg : Str → Option Value} {D : Ends} {σ1 : L2.St} {G G1 H1 : Hp} (x1 : Ext F.G0 F.H0.out G1 H1) (g : Ex G G1) (sl : Slots K F.H0 G1 H1 σ1 ρ1)
    (a : (∀ ρ' σ' G' H', N.nx ρ' → Ext F.G0 F.H0.out G' H' → Ex G G' → Slots K F.H0 G' H' σ' ρ' → D.nx σ' H') ∧
      (∀ ρ' σ' G' H', N.bk ρ' → Ext F.G0 F.H0.out G' H' → Ex G G' → Slots K F.H0 G' H' σ' ρ' → D.bk σ' H') ∧
      (∀ ρ' σ' G' H', N.ct ρ' → Ext F.G0 F.H0.out G' H' → Ex G G' → Slots K F.H0 G' H' σ' ρ' → D.ct σ' H') ∧
      (∀ ρ' σ' d v G' H', N.rt ρ' d → Ext F.G0 F.H0.out G' H' → Slots K F.H0 G' H' σ' ρ' → Dp K G' v d → D.rt v H') ∧
      (∀ n C G' H', N.ex n → mg n = some (.ref C) → Ext F.G0 F.H0.out G' H' → ∀ ρ' σ', N.xs ρ' → Slots K F.H0 G' H' σ' ρ' → F.E (.ref C) none H')) : tS K mg F ρ1 N D σ1 H1 :=
  ⟨G1, x1, sl, fun ρ' σ' G' H' q x e => a.1 ρ' σ' G' H' q x (g.trans e), fun ρ' σ' G' H' q x e => a.2.1 ρ' σ' G' H' q x (g.trans e), fun ρ' σ' G' H' q x e => a.2.2.1 ρ' σ' G' H' q x (g.trans e), a.2.2.2.1, a.2.2.2.2⟩
/-- name = e -/
theorem ds_set {i : Nat} {x : Str} (he : DE X F.H0 ρ e d) (hr : DS X F (ρ.set i (.dat d)) rest N) (hN : X.N.Nodup) (hi : X.N[i]? = some x := by rfl) (hx : Loc X.env.scope x := by first | exact .inl rfl | exact .inr rfl)
    (hs : swapsWith e (some (.Name x pos')) pos.line X.env = pure false := by rfl) (hf : X.fn x = true ∨ X.env.scope.names.lookup x = some .local := by first | exact .inl rfl | exact .inr rfl | assumption) : DS X F ρ (.Assign [.Name x pos'] e pos :: rest) N :=
  (pss_cons (ps_set hN hi hx he hs hf) hr).imp fun D σ H ⟨G, x, sl, a⟩ => ⟨G, x.gh, sl, fun v G1 H1 y r => tS_up (D := D) (x.trans y) y.g ((sl.up y).setD r) a⟩
theorem fresh_own {K : PySem.W.Frag} {H0 : Bs} {G H G1 H1 : Hp} {σ : L2.St} {i : Nat} {q : Addr} {vs : List V} (x : Ext F.G0 F.H0.out G H) (sl : Slots K F.H0 G H σ ρ) (y : Ext G H G1 H1) (n : H q = none) (n1 : G1 q = none) (hq : H1 q = some (.lst vs)) (r : DpAll K G1 vs ds) :
    Slots K F.H0 G1 H1 (σ.set i (some (.ref q))) (ρ.set i (.own ds)) :=
  (sl.up y).setO (x.h.back n) n1 hq r (sl.free n)
/-- name = a new list: it is the name's own -/
theorem ds_setL {i : Nat} {x : Str} (he : DL X F.H0 ρ e ds) (hr : DS X F (ρ.set i (.own ds)) rest N) (hN : X.N.Nodup) (hi : X.N[i]? = some x := by rfl) (hx : Loc X.env.scope x := by first | exact .inl rfl | exact .inr rfl)
    (hs : swapsWith e (some (.Name x pos')) pos.line X.env = pure false := by rfl) (hf : X.fn x = true ∨ X.env.scope.names.lookup x = some .local := by first | exact .inl rfl | exact .inr rfl | assumption) : DS X F ρ (.Assign [.Name x pos'] e pos :: rest) N :=
  (pss_cons (ps_set hN hi hx he hs hf) hr).imp fun D σ H ⟨G, x, sl, a⟩ => ⟨G, x.gh, sl, fun q vs G1 H1 y n n1 hq r => tS_up (D := D) (x.trans y) y.g (fresh_own (H0 := F.H0) x sl y n n1 hq r) a⟩
/-- a name's own list is settled: from now on it is data -/
theorem ds_settle (i : Nat) {p9 : Option Addr} (hi : ρ[i]? = some (.own ds p9)) (hr : DS X F (ρ.set i (.dat (.list ds))) rest N) : DS X F ρ rest N :=
  hr.imp fun D σ H ⟨G, x, sl, a⟩ => by
    obtain ⟨G2, e1, e2, nw, nt, sl2⟩ := sl.settle x.gh hi
    exact tS_up (D := D) ⟨x.g.trans e1, x.h, e2, fun b o h n => by
      cases q : G b with
      | none => exact nw b o h q
      | some u => exact x.nw b u q n, fun b ps h => x.nt b ps (nt b ps h)⟩ e1 sl2 a
/-- a slot is forgotten -/
theorem ds_forget (i : Nat) (hr : DS X F (ρ.set i .un) rest N) : DS X F ρ rest N :=
  hr.imp fun D σ H ⟨G, x, sl, a⟩ => tS_up (D := D) x (Ex.refl G) (by
    have h := sl.setU i (σ.getD i none)
    rwa [show σ.set i (σ.getD i none) = σ from by
      apply List.ext_getElem?
      intro j
      by_cases q : i = j
      · subst q
        by_cases hl : i < σ.length
        · rw [List.getElem?_set_self hl]; simp [hl]
        · rw [List.getElem?_eq_none (by simpa using hl), List.getElem?_eq_none (by simpa using hl)]
      · rw [List.getElem?_set_ne q]] at h) a
/-- targets = e -/
theorem ds_asg {tg : Expr} {js : List Nat} (he : DE X F.H0 ρ e d) (hg : DG X F.H0 ρ tg d ρ1 js) (hr : DS X F ρ1 rest N) (hs : swapsWithSole [tg] e pos.line X.env = pure false := by rfl) (hw : swappedStores [tg] e X.env = pure none := by rfl)
    (h1 : (assignEach [tg] X.env).map (·.2) = [assign tg X.env] := by rfl) : DS X F ρ (.Assign [tg] e pos :: rest) N :=
  (pss_cons (ps_asg he hg hs hw h1) hr).imp fun D σ H ⟨G, x, sl, a⟩ => ⟨G, x.gh, sl, fun v G1 H1 y r => ⟨G1, y.gh, sl.up y, r, fun σ' sl' _ => tS_up (D := D) (x.trans y) y.g sl' a⟩⟩
/-- x, y = e1, e2 -/
theorem ds_par {i j : Nat} {x y : Str} {a b : Expr} {px py pt : Pos} {kt k2 pt2} {d1 d2 : D} (ha : DE X F.H0 ρ a d1) (hb : DE X F.H0 ρ b d2) (hr : DS X F ((ρ.set i (.dat d1)).set j (.dat d2)) rest N) (hc : X.calm = true) (hN : X.N.Nodup) (hi : X.N[i]? = some x := by rfl) (hj : X.N[j]? = some y := by rfl) (hij : i ≠ j := by decide)
    (hx : X.env.scope.names.lookup x = some .local := by rfl) (hy : X.env.scope.names.lookup y = some .local := by rfl)
    (hw : swappedStores [.Tuple [.Name x px, .Name y py] kt pt] (.Tuple [a, b] k2 pt2) X.env = pure (some [x, y]) := by rfl)
    (hs : swapsWithSole [.Tuple [.Name x px, .Name y py] kt pt] (.Tuple [a, b] k2 pt2) pos.line X.env = pure false := by rfl)
    (hs1 : starEach (a :: [b]) X.env = (false, eval a X.env) :: starEach [b] X.env := by rfl) (hs2 : starEach (b :: []) X.env = (false, eval b X.env) :: starEach [] X.env := by rfl) :
    DS X F ρ (.Assign [.Tuple [.Name x px, .Name y py] kt pt] (.Tuple [a, b] k2 pt2) pos :: rest) N :=
  (pss_cons (ps_par hc hN hi hj hij hx hy (da_cons ha (da_cons hb da_nil hs2) hs1) hw hs) hr).imp fun D σ H ⟨G, x, sl, aa⟩ => ⟨G, x.gh, sl, fun vs G1 H1 y r => by
    obtain ⟨v1, t, rfl, r1, r2⟩ := r.inv_cons
    obtain ⟨v2, t, rfl, r3, r4⟩ := r2.inv_cons
    obtain rfl := r4.inv_nil
    exact ⟨v1, v2, rfl, tS_up (D := D) (x.trans y) y.g (((sl.up y).setD r1).setD r3) aa⟩⟩
/-- the two made from new lists: both are own -/
theorem ds_parL {i j : Nat} {x y : Str} {a b : Expr} {px py pt : Pos} {kt k2 pt2} {l1 l2 : List D} (ha : DL X F.H0 ρ a l1) (hb : DL X F.H0 ρ b l2) (hr : DS X F ((ρ.set i (.own l1)).set j (.own l2)) rest N) (hc : X.calm = true) (hN : X.N.Nodup) (hi : X.N[i]? = some x := by rfl) (hj : X.N[j]? = some y := by rfl) (hij : i ≠ j := by decide)
    (hx : X.env.scope.names.lookup x = some .local := by rfl) (hy : X.env.scope.names.lookup y = some .local := by rfl)
    (hw : swappedStores [.Tuple [.Name x px, .Name y py] kt pt] (.Tuple [a, b] k2 pt2) X.env = pure (some [x, y]) := by rfl)
    (hs : swapsWithSole [.Tuple [.Name x px, .Name y py] kt pt] (.Tuple [a, b] k2 pt2) pos.line X.env = pure false := by rfl)
    (hs1 : starEach (a :: [b]) X.env = (false, eval a X.env) :: starEach [b] X.env := by rfl) (hs2 : starEach (b :: []) X.env = (false, eval b X.env) :: starEach [] X.env := by rfl) :
    DS X F ρ (.Assign [.Tuple [.Name x px, .Name y py] kt pt] (.Tuple [a, b] k2 pt2) pos :: rest) N :=
  (pss_cons (ps_par hc hN hi hj hij hx hy (pa_cons ha (pa_cons hb pa_nil hs2) hs1) hw hs) hr).imp fun D σ H ⟨G, x, sl, aa⟩ => ⟨G, x.gh, sl, fun q vs G1 H1 y n n1 hq r => by
    refine ⟨G1, y.gh, sl.up y, fun q2 vs2 G2 H2 z m m1 hq2 r2 => ⟨.ref q, .ref q2, rfl, tS_up (D := D) ((x.trans y).trans z) (y.g.trans z.g) ?_ aa⟩⟩
    have s1 : Slots X.K F.H0 G2 H2 (σ.set i (some (.ref q))) (ρ.set i (.own l1)) := (fresh_own (H0 := F.H0) x sl y n n1 hq r).up z
    exact s1.setO ((x.trans y).h.back m) m1 hq2 r2 ((fresh_own (H0 := F.H0) (i := i) x sl y n n1 hq r).free m)⟩
/-- return e -/
theorem ds_ret (he : DE X F.H0 ρ e d) (h : N.rt ρ d) : DS X F ρ (.Return (some e) pos :: rest) N :=
  (pss_cons (ps_ret he) (pss_never)).imp fun D σ H ⟨G, x, sl, _, _, _, a4, _⟩ => ⟨G, x.gh, sl, fun v G1 H1 y r => a4 ρ σ d v G1 H1 h (x.trans y) (sl.up y) r⟩
theorem ds_retN (h : N.rt ρ .none) : DS X F ρ (.Return none pos :: rest) N := (pss_cons ps_retN pss_never).imp fun D σ H ⟨G, x, sl, _, _, _, a4, _⟩ => a4 ρ σ .none .non G H h x sl .non
/-- an expression alone -/
theorem ds_expr (he : DE X F.H0 ρ e d) (hr : DS X F ρ rest N) (hs : swapsWith e none pos.line X.env = pure false := by rfl) : DS X F ρ (.Expr e pos :: rest) N :=
  (pss_cons (ps_expr he hs) hr).imp fun D σ H ⟨G, x, sl, a⟩ => ⟨G, x.gh, sl, fun v G1 H1 y r => tS_up (D := D) (x.trans y) y.g (sl.up y) a⟩
/-- where the way goes on by Mid -/
def tMid (K : PySem.W.Frag) (mg : Str → Option Value) (F : Fr0) (Mid : Env → Prop) (N : DEnd) : TS := fun D σ H => ∃ ρ', Mid ρ' ∧ tS K mg F ρ' N D σ H
theorem ds_mid (h : ∀ ρ', Mid ρ' → DS X F ρ' rest N) : PSs X rest (tMid X.K X.mg F Mid N) := ⟨fun pins s σ H D I ⟨ρ', m, q⟩ => (h ρ' m).run pins s σ H D I q⟩
abbrev DEnd.to (N : DEnd) (Mid : Env → Prop) : DEnd := { N with nx := Mid }
/-- a statement, then the rest from Mid -/
theorem ds_cut (h1 : PS X st (tS X.K X.mg F ρ (N.to Mid))) (h2 : ∀ ρ', Mid ρ' → DS X F ρ' rest N) : DS X F ρ (st :: rest) N :=
  (pss_cons h1 (ds_mid h2)).imp fun D σ H ⟨G, x, sl, a⟩ => ⟨G, x, sl, fun ρ' σ' G' H' m x' g' sl' => ⟨ρ', m, tS_up (D := D) x' g' sl' a⟩, a.2.1, a.2.2.1, a.2.2.2.1, a.2.2.2.2⟩
theorem tif_pick {t : TT} {u w : TS} {D : Ends} {σ : L2.St} {H : Hp} {p : Bool} (h : t σ H fun b H1 => b = p ∧ (if p = true then u D σ H1 else w D σ H1)) (mono : ∀ (Q Q' : Bool → Hp → Prop), (∀ b H1, Q b H1 → Q' b H1) → t σ H Q → t σ H Q') : tIfS t u w D σ H :=
  mono _ _ (fun b H1 ⟨e, q⟩ => by subst e; exact q) h
/-- if c: b1 else: b2, then the rest from Mid -/
theorem ps_ifD (ht : DT X F.H0 ρ c p) (h1 : p = true → DS X F ρ b1 N) (h2 : p = false → DS X F ρ b2 N) : PS X (.If c b1 b2 pos) (tS X.K X.mg F ρ N) :=
  (ps_if ht (PSs.given h1) (PSs.given h2)).imp fun D σ H ⟨G, x, sl, a⟩ => ⟨G, x.gh, sl, fun G1 H1 y => by
    cases p with
    | true => rw [if_pos rfl]; exact ⟨rfl, tS_up (D := D) (x.trans y) y.g (sl.up y) a⟩
    | false => rw [if_neg Bool.false_ne_true]; exact ⟨rfl, tS_up (D := D) (x.trans y) y.g (sl.up y) a⟩⟩
theorem ds_if (Mid : Env → Prop) (ht : DT X F.H0 ρ c p) (h1 : p = true → DS X F ρ b1 (N.to Mid)) (h2 : p = false → DS X F ρ b2 (N.to Mid)) (hr : ∀ ρ', Mid ρ' → DS X F ρ' rest N) : DS X F ρ (.If c b1 b2 pos :: rest) N := ds_cut (ps_ifD ht h1 h2) hr
/-- if c: a block that leaves; the rest -/
theorem ds_ifRet (ht : DT X F.H0 ρ c p) (h1 : p = true → DS X F ρ b1 (N.to fun _ => False)) (hr : p = false → DS X F ρ rest N) : DS X F ρ (.If c b1 [] pos :: rest) N :=
  ds_if (fun ρ' => p = false ∧ ρ' = ρ) ht (fun h => ds_imp (h1 h) (fun _ z => z.elim) (fun _ _ z => z) (fun _ z => z) (fun _ z => z) fun _ z => z) (fun h => ds_nil ⟨h, rfl⟩) fun ρ' ⟨h, e⟩ => e ▸ hr h
/-- x.append(e), x the owner -/
theorem ds_app {i : Nat} {x : Str} (hi : ρ[i]? = some (.own ds)) (he : DE X F.H0 ρ e d) (hz : ds.length < 100000) (hr : DS X F (ρ.set i (.own (ds ++ [d]))) rest N) (hNi : X.N[i]? = some x := by rfl) (hv : Vis X.env.scope x := by first | exact Or.inl rfl | exact Or.inr (Or.inl rfl) | exact Or.inr (Or.inr rfl))
    (hd : (x == ("__debug__" : Str)) = false := by decide) (hcd : (x == ("__classdict__" : Str)) = false := by decide)
    (hs : swapsWith (.Call (.Attribute (.Name x p1) "append" p2) [e] [] pos) none pos'.line X.env = pure false := by rfl) (hb : attributeBase (.Name x p1) "append" X.env (eval (.Name x p1) X.env) = eval (.Name x p1) X.env := by rfl) (hfew : ((backTo pos (starEach (e :: []) X.env)).all (fun x => !x.1) && (backToKw pos (keywordEach [] X.env)).all (fun x => x.1.isSome) && decide ((e :: []).length + ([] : List Keyword).length + (if ([] : List Keyword).isEmpty then 0 else 1) < 30)) = true := by rfl) (hl : (p2.endLine == pos.line) = true := by rfl)
    (he1 : starEach (e :: []) X.env = (false, eval e X.env) :: starEach [] X.env := by rfl) (hpl : (backTo pos (starEach [] X.env)).any (·.1) = false := by rfl) :
    DS X F ρ (.Expr (.Call (.Attribute (.Name x p1) "append" p2) [e] [] pos) pos' :: rest) N :=
  (pss_cons (ps_expr (pe_bm PySem.F.plainAttrs_list PySem.F.slot_list_append PySem.F.type_list_append mt_append (pv i hNi hv hd hcd) (pa_one he he1) hb hfew hl he1 hpl) hs) hr).imp fun D σ H ⟨G, x, sl, a⟩ => by
    obtain ⟨q, vs, hq, h0, hg, hh, r⟩ := sl.own i ds _ hi
    refine ⟨.ref q, hq, .inl ⟨rfl, vs, .inl (.inl hh)⟩, G, x.gh, sl, fun v G1 H1 y rv => ⟨q, vs, v, rfl, rfl, y.h _ _ hh, by rw [r.length]; exact Nat.lt_of_lt_of_le hz (by decide), ?_⟩⟩
    have x1 := x.trans y
    have n1 : G1 q = none := y.keepN hg hh
    exact tS_up (D := D) ⟨x1.g, x1.h.mut h0, x1.gh.mut n1, x1.nw, x1.nt⟩ y.g ((sl.up y).mut hi hq ((r.up y.g).app (DpAll.one rv))) a
/-- y = x.pop(), x the owner -/
theorem ds_pop {i j : Nat} {x y : Str} {py : Pos} (hi : ρ[i]? = some (.own ds)) (hj : ds[ds.length - 1]? = some d) (hr : DS X F ((ρ.set i (.own ds.dropLast)).set j (.dat d)) rest N) (hN : X.N.Nodup) (hNi : X.N[i]? = some x := by rfl) (hNj : X.N[j]? = some y := by rfl) (hv : Vis X.env.scope x := by first | exact Or.inl rfl | exact Or.inr (Or.inl rfl) | exact Or.inr (Or.inr rfl))
    (hy : Loc X.env.scope y := by first | exact .inl rfl | exact .inr rfl) (hd : (x == ("__debug__" : Str)) = false := by decide) (hcd : (x == ("__classdict__" : Str)) = false := by decide)
    (hs : swapsWith (.Call (.Attribute (.Name x p1) "pop" p2) [] [] pos) (some (.Name y py)) pos'.line X.env = pure false := by rfl) (hb : attributeBase (.Name x p1) "pop" X.env (eval (.Name x p1) X.env) = eval (.Name x p1) X.env := by rfl) (hl : (p2.endLine == pos.line) = true := by rfl)
    (hf : X.fn y = true ∨ X.env.scope.names.lookup y = some .local := by first | exact .inl rfl | exact .inr rfl | assumption) (hxs : N.xs ρ := by exact True.intro) :
    DS X F ρ (.Assign [.Name y py] (.Call (.Attribute (.Name x p1) "pop" p2) [] [] pos) pos' :: rest) N :=
  (pss_cons (ps_set hN hNj hy (pe_bm0 PySem.F.plainAttrs_list PySem.F.slot_list_pop PySem.F.type_list_pop mt_pop (pv i hNi hv hd hcd) hb hl) hs hf) hr).imp fun D σ H ⟨G, x, sl, a⟩ => by
    obtain ⟨q, vs, hq, h0, hg, hh, r⟩ := sl.own i ds _ hi
    obtain ⟨v, hv, rv⟩ := r.at hj
    refine ⟨.ref q, hq, .inl ⟨rfl, vs, .inl (.inl hh)⟩, q, vs, v, rfl, rfl, hh, by rw [r.length]; exact hv, ?_⟩
    exact tS_up (D := D) ⟨x.g, x.h.mut h0, x.gh.mut hg, x.nw, x.nt⟩ (Ex.refl G) ((sl.mut hi hq r.dropLast).setD rv) a
/-- for tg in iter: body -/
theorem ps_forD {tg iter : Expr} {items : List D} (I : Nat → Env → Prop) (hi : DI X F.H0 ρ tg iter items) (h0 : I 0 ρ)
    (hs : ∀ i d ρ', items[i]? = some d → I i ρ' → ∃ ρ'' js, DG X F.H0 ρ' tg d ρ'' js ∧ DS X F ρ'' body { N with nx := I (i + 1), ct := I (i + 1), bk := N.nx }) (hd : ∀ ρ', I items.length ρ' → N.nx ρ') (hp : PassesOwn (model X.prog X.w) X.A X.env X.xe) (hc : X.calm = true)
    (hf : ∀ x, foldedSetIterable iter X.env x = pure x := by intro _; rfl) : PS X (.For tg iter body [] pos) (tS X.K X.mg F ρ N) :=
  (ps_for hp hc hi PG.any PSs.any hf).imp fun D σ H ⟨G, x, sl, a⟩ => ⟨G, x.gh, sl, fun J G1 H1 y ⟨Y, w, hy⟩ => by
    refine for_it (g := fun v σ H Q => ∃ t, PG X tg t ∧ t v σ H Q) (tb := fun D σ H => ∃ t, PSs X body t ∧ t D σ H) (D := D) (σ := σ) (H := H1) w (fun i σ' H' => ∃ ρ' G', I i ρ' ∧ Ext F.G0 F.H0.out G' H' ∧ Ex G1 G' ∧ Slots X.K F.H0 G' H' σ' ρ') ⟨ρ, G1, h0, x.trans y, Ex.refl G1, sl.up y⟩ (fun i σ' H' _ ⟨ρ', G', _, x', g', _⟩ => g'.trans x'.gh) (fun i v σ' H' H'' hlt ⟨ρ', G', hI, x', g', sl'⟩ hyv => ?_) (fun σ' H' ⟨ρ', G', hI, x', g', sl'⟩ => a.1 ρ' σ' G' H' (hd ρ' hI) x' (y.g.trans g') sl')
    obtain ⟨G2, d, x2, hdi, rd⟩ := hy i H' v H'' G' hyv g' x'.gh
    obtain ⟨ρ'', js, hg, hb⟩ := hs i d ρ' hdi hI
    refine ⟨_, hg, G2, x2.gh, sl'.up x2, rd, fun σ2 sl2 _ => ⟨_, hb, ?_⟩⟩
    have xx := x'.trans x2
    have gg : Ex G1 G2 := g'.trans x2.g
    refine ⟨G2, xx, sl2, fun ρ3 σ3 G3 H3 q3 x3 e3 s3 => ⟨ρ3, G3, q3, x3, gg.trans e3, s3⟩, fun ρ3 σ3 G3 H3 q3 x3 e3 s3 => a.1 ρ3 σ3 G3 H3 q3 x3 (y.g.trans (gg.trans e3)) s3, fun ρ3 σ3 G3 H3 q3 x3 e3 s3 => ⟨ρ3, G3, q3, x3, gg.trans e3, s3⟩, a.2.2.2.1, a.2.2.2.2⟩⟩
theorem ds_for {tg iter : Expr} {items : List D} (I : Nat → Env → Prop) (Mid : Env → Prop) (hi : DI X F.H0 ρ tg iter items) (h0 : I 0 ρ)
    (hs : ∀ i d ρ', items[i]? = some d → I i ρ' → ∃ ρ'' js, DG X F.H0 ρ' tg d ρ'' js ∧ DS X F ρ'' body { N with nx := I (i + 1), ct := I (i + 1), bk := Mid }) (hd : ∀ ρ', I items.length ρ' → Mid ρ') (hr : ∀ ρ', Mid ρ' → DS X F ρ' rest N) (hp : PassesOwn (model X.prog X.w) X.A X.env X.xe) (hc : X.calm = true)
    (hf : ∀ x, foldedSetIterable iter X.env x = pure x := by intro _; rfl) : DS X F ρ (.For tg iter body [] pos :: rest) N := ds_cut (ps_forD (N := N.to Mid) I hi h0 hs hd hp hc hf) hr
/-- while c: body; I with its measure -/
theorem ps_whileD (I : Nat → Env → Prop) (m0 : Nat) (h0 : I m0 ρ) (hs : ∀ m ρ', I m ρ' → ∃ b, DT X F.H0 ρ' c b ∧ (b = true → DS X F ρ' body { N with nx := fun ρ'' => ∃ m', m' < m ∧ I m' ρ'', ct := fun ρ'' => ∃ m', m' < m ∧ I m' ρ'', bk := N.nx }) ∧ (b = false → N.nx ρ'))
    (hp : PassesOwn (model X.prog X.w) X.A X.env X.xe) : PS X (.While c body [] pos) (tS X.K X.mg F ρ N) :=
  (ps_while hp PT.any PSs.any).imp fun D σ H ⟨G, x, sl, a⟩ => by
    refine ⟨fun m σ' H' => ∃ ρ' G', I m ρ' ∧ Ext F.G0 F.H0.out G' H' ∧ Ex G G' ∧ Slots X.K F.H0 G' H' σ' ρ', ⟨m0, ρ, G, h0, x, Ex.refl G, sl⟩, ?_⟩
    rintro m σ' H' ⟨ρ', G', hI, x', g', sl'⟩
    obtain ⟨b, ht, hb, hn⟩ := hs m ρ' hI
    refine ⟨_, ht, G', x'.gh, sl', fun G2 H2 y => ?_⟩
    have xx := x'.trans y
    have gg : Ex G G2 := g'.trans y.g
    cases b with
    | false =>
      show (if false = true then _ else _)
      rw [if_neg Bool.false_ne_true]
      exact a.1 ρ' σ' G2 H2 (hn rfl) xx gg (sl'.up y)
    | true =>
      show (if true = true then _ else _)
      rw [if_pos rfl]
      refine ⟨fun σ3 H3 => ∃ m', m' < m ∧ ∃ ρ3 G3, I m' ρ3 ∧ Ext F.G0 F.H0.out G3 H3 ∧ Ex G G3 ∧ Slots X.K F.H0 G3 H3 σ3 ρ3, fun σ3 H3 h => h, _, hb rfl, ?_⟩
      exact ⟨G2, xx, sl'.up y, fun ρ3 σ3 G3 H3 ⟨m', hm, q3⟩ x3 e3 s3 => ⟨m', hm, ρ3, G3, q3, x3, gg.trans e3, s3⟩, fun ρ3 σ3 G3 H3 q3 x3 e3 s3 => a.1 ρ3 σ3 G3 H3 q3 x3 (gg.trans e3) s3, fun ρ3 σ3 G3 H3 ⟨m', hm, q3⟩ x3 e3 s3 => ⟨m', hm, ρ3, G3, q3, x3, gg.trans e3, s3⟩, a.2.2.2.1, a.2.2.2.2⟩
theorem ds_while (I : Nat → Env → Prop) (m0 : Nat) (Mid : Env → Prop) (h0 : I m0 ρ) (hs : ∀ m ρ', I m ρ' → ∃ b, DT X F.H0 ρ' c b ∧ (b = true → DS X F ρ' body { N with nx := fun ρ'' => ∃ m', m' < m ∧ I m' ρ'', ct := fun ρ'' => ∃ m', m' < m ∧ I m' ρ'', bk := Mid }) ∧ (b = false → Mid ρ'))
    (hr : ∀ ρ', Mid ρ' → DS X F ρ' rest N) (hp : PassesOwn (model X.prog X.w) X.A X.env X.xe) : DS X F ρ (.While c body [] pos :: rest) N := ds_cut (ps_whileD (N := N.to Mid) I m0 h0 hs hp) hr
end

/-! ### exceptions -/
/-- what is known of an exception class of the program -/
def ExcK (K : PySem.W.Frag) (mg : Str → Option Value) (x : Str) : Prop := ∃ C, mg x = some (.ref C) ∧ PySem.W.excIn K C [.type "ValueError", .type "Exception", .type "BaseException", .type "object"] "ValueError.__new__" = true ∧ PySem.W.keepIn K (.ref C) = true ∧
  PySem.W.subIn K (.ref C) (.type "BaseException") = some true ∧ PySem.W.typeIn K (.ref C) = some (.type "type")
section
variable {X : Cx} {F : Fr0} {ρ : Env} {rest : List Stmt} {N : DEnd} {x m : Str} {j : Nat} {p p2 pos pos2 : Pos}
theorem ds_raise (k : ExcK X.K X.mg x) (hg : Gl X x) (tk : TakesE X F) (hc : X.calm = true) (hn : N.ex x) (hdb : (x == ("__debug__" : Str)) = false := by decide) (hxs : N.xs ρ := by exact True.intro) : DS X F ρ (.Raise (some (.Call (.Name x p) [.Constant (.str m) j p2] [] pos)) none pos2 :: rest) N := by
  obtain ⟨C, gC, q, kC, sb, ty⟩ := k
  exact (pss_cons (L2N.ps_raise hc tk (L2N.pmk_own PySem.F.excBase_ValueError q gC kC (raises_own sb ty) hg hdb)) pss_never).imp fun D σ H ⟨G, x, sl, _, _, _, _, a5⟩ => a5 _ C G H hn gC x ρ σ hxs sl
end

theorem passLN {X : Cx} : Passes (L2N.CX X.prog X.w) X E0 := fun _ _ _ _ _ _ _ h => by
  obtain ⟨_, _, _, _, _, _, _, _, _, _, _, _, z⟩ := h
  exact z.elim
/-! ### defs -/
inductive Out where
  | ok (d : D) | err (n : Str)
theorem _root_.L2.Fun.okN {P : Program} {w : World} {K : PySem.W.Frag} {mg : Str → Option Value} {base : Heap} {CX : CXT} {x qual : Str} {st : Stmt} {f : Addr} {fd : FuncData} {N ps : List Str} {k : Nat} {sp : Sp} (F : Fun K x qual st f fd) (S : FnScope N ps (defScope st)) (len : ∀ vs H Q E, sp vs H Q E → vs.length = ps.length)
    (hbody : ∀ (cdv : Value) (A : Around) (outer : List PySem.Env) (s : Shared) (H : Hp) (vs : List V) (Q : VK) (E : XK), Room k (A.deeper (envOfC qual (defScope st) s.heap.objs.size f cdv)) → sp vs H Q E →
      ∃ t, PSs (cxOf CX P w K mg base N qual (defScope st) f cdv A outer s H E) (defBody st) t ∧ t { nx := fun _ H' => Q .non H', rt := Q } (L2.start N vs) H) : FnOk P w K mg base CX (k + 1) f fd ps sp := by
  obtain ⟨oc, od, kV, doc, pm, an, cdv, ct, osl, rfl, lk, hcd⟩ := F.ex
  exact fn_of lk hcd S len fun A outer s H vs Q E hr hsp => hbody cdv A outer s H vs Q E hr hsp
/-- what a def promises: from arguments that stand for enc a, where pre a holds, what res a tells; nothing that stood is changed -/
def spD (K : PySem.W.Frag) (mg : Str → Option Value) {α : Type} (enc : α → List D) (pre : α → Prop) (res : α → Out) : Sp := fun vs H Q E => ∃ (a : α) (G : Hp), Ex G H ∧ DpAll K G vs (enc a) ∧ pre a ∧
  (∀ d, res a = .ok d → ∀ v G2 H2, Ext G H G2 H2 → Dp K G2 v d → Q v H2) ∧ (∀ n, res a = .err n → ∀ C G2 H2, mg n = some (.ref C) → Ext G H G2 H2 → E (.ref C) none H2)
/-- a def of the text, as it is called -/
def DefOk (P : Program) (w : World) (K : PySem.W.Frag) (mg : Str → Option Value) (base : Heap) (k : Nat) (x : Str) (ps : List Str) (sp : Sp) : Prop :=
  ∃ f fd, mg x = some (.ref f) ∧ PySem.W.keepIn K (.ref f) = true ∧ Binds K fd ps [] ∧ FnOk P w K mg base (L2N.CX P w) k f fd ps sp
abbrev DefX (X : Cx) (k : Nat) (x : Str) (ps : List Str) (sp : Sp) : Prop := DefOk X.prog X.w X.K X.mg X.base k x ps sp
def startE (N : List Str) (ds : List D) : Env := ds.map .dat ++ List.replicate (N.length - ds.length) .un
theorem slots_startB {K : PySem.W.Frag} {G H : Hp} {vs : List V} {ds : List D} (N : List Str) {B : Bs} (hB : B.inv H) (e : Ex G H) (r : DpAll K G vs ds) : Slots K B G H (L2.start N vs) (startE N ds) := by
  refine ⟨by unfold L2.start startE; simp [r.length], fun i d h => ?_, fun i es p0 h => ?_, fun i j es fs p0 p1 p _ h => ?_, fun i es p q h => ?_, hB, fun i v9 h => ?_, .no fun i t h => ?_⟩
  · have hi : i < ds.length := by
      unfold startE at h
      by_cases hi : i < ds.length
      · exact hi
      · rw [List.getElem?_append_right (by simpa using hi), List.getElem?_replicate] at h
        split at h <;> cases h
    have hd : ds[i]? = some d := by
      unfold startE at h
      rw [List.getElem?_append_left (by simpa using hi), List.getElem?_map, List.getElem?_eq_getElem hi] at h
      rw [List.getElem?_eq_getElem hi]
      have := Option.some.inj h
      injection this with e
      rw [e]
    obtain ⟨v, hv, rv⟩ := r.at hd
    refine ⟨v, ?_, rv⟩
    unfold L2.start
    rw [List.getElem?_append_left (by rw [List.length_map, r.length]; exact hi), List.getElem?_map, hv]
    rfl
  · exfalso
    unfold startE at h
    by_cases hi : i < ds.length
    · rw [List.getElem?_append_left (by simpa using hi), List.getElem?_map, List.getElem?_eq_getElem hi] at h
      have := Option.some.inj h
      cases this
    · rw [List.getElem?_append_right (by simpa using hi), List.getElem?_replicate] at h
      split at h <;> cases h
  · exfalso
    unfold startE at h
    by_cases hi : i < ds.length
    · rw [List.getElem?_append_left (by simpa using hi), List.getElem?_map, List.getElem?_eq_getElem hi] at h
      have := Option.some.inj h
      cases this
    · rw [List.getElem?_append_right (by simpa using hi), List.getElem?_replicate] at h
      split at h <;> cases h
  · exfalso
    unfold startE at h
    by_cases hi : i < ds.length
    · rw [List.getElem?_append_left (by simpa using hi), List.getElem?_map, List.getElem?_eq_getElem hi] at h
      have := Option.some.inj h
      cases this
    · rw [List.getElem?_append_right (by simpa using hi), List.getElem?_replicate] at h
      split at h <;> cases h
  · exfalso
    unfold startE at h
    by_cases hi : i < ds.length
    · rw [List.getElem?_append_left (by simpa using hi), List.getElem?_map, List.getElem?_eq_getElem hi] at h
      have := Option.some.inj h
      cases this
    · rw [List.getElem?_append_right (by simpa using hi), List.getElem?_replicate] at h
      split at h <;> cases h
  · exfalso
    unfold startE at h
    by_cases hi : i < ds.length
    · rw [List.getElem?_append_left (by simpa using hi), List.getElem?_map, List.getElem?_eq_getElem hi] at h
      have := Option.some.inj h
      cases this
    · rw [List.getElem?_append_right (by simpa using hi), List.getElem?_replicate] at h
      split at h <;> cases h
theorem slots_start {K : PySem.W.Frag} {G H : Hp} {vs : List V} {ds : List D} (N : List Str) (e : Ex G H) (r : DpAll K G vs ds) : Slots K (.of H) G H (L2.start N vs) (startE N ds) := slots_startB N (B := .of H) trivial e r
def endOf (o : Out) : DEnd := { nx := fun _ => o = .ok .none, rt := fun _ d => o = .ok d, ex := fun n => o = .err n }
section
variable {P : Program} {w : World} {K : PySem.W.Frag} {mg : Str → Option Value} {base : Heap} {α : Type} {enc : α → List D} {pre : α → Prop} {res : α → Out} {x : Str} {st : Stmt} {N ps : List Str} {k : Nat}
/-- THE RULE for a def -/
theorem def_ok {f : Addr} {fd : FuncData} (F : Fun K x x st f fd) (S : FnScope N ps (defScope st)) (hlen : ∀ a, (enc a).length = ps.length)
    (body : ∀ a, pre a → ∀ (cdv : Value) (A : Around) (outer : List PySem.Env) (s : Shared) (H G : Hp) (E : XK), Room k (A.deeper (envOfC x (defScope st) s.heap.objs.size f cdv)) →
      TakesE (cxOf (L2N.CX P w) P w K mg base N x (defScope st) f cdv A outer s H E) ⟨.of H, G, E⟩ → PassesOwn (model P w) (cxOf (L2N.CX P w) P w K mg base N x (defScope st) f cdv A outer s H E).A (cxOf (L2N.CX P w) P w K mg base N x (defScope st) f cdv A outer s H E).env (cxOf (L2N.CX P w) P w K mg base N x (defScope st) f cdv A outer s H E).xe →
      DS (cxOf (L2N.CX P w) P w K mg base N x (defScope st) f cdv A outer s H E) ⟨.of H, G, E⟩ (startE N (enc a)) (defBody st) (endOf (res a))) : FnOk P w K mg base (L2N.CX P w) (k + 1) f fd ps (spD K mg enc pre res) := by
  refine F.okN S (fun vs H Q E ⟨a, G, _, r, _⟩ => by rw [r.length]; exact hlen a) (fun cdv A outer s H vs Q E hr ⟨a, G, e, r, hp, q1, q2⟩ => ?_)
  refine ⟨_, body a hp cdv A outer s H G E hr (L2N.takes_of rfl rfl rfl rfl) (passes_of rfl), G, Ext.refl e, slots_start N e r, fun ρ' σ' G' H' h x' _ _ => q1 _ h .non G' H' x' .non, fun _ _ _ _ h => h.elim, fun _ _ _ _ h => h.elim, fun ρ' σ' d v G' H' h x' _ r' => q1 d h v G' H' x' r', fun n C G' H' h hm x' _ _ _ _ => q2 n h C G' H' hm x'⟩
end
section
variable {X : Cx} {H0 : Bs} {F : Fr0} {ρ : Env} {α : Type} {enc : α → List D} {pre : α → Prop} {res : α → Out} {x : Str} {ps : List Str} {k : Nat} {e : Expr} {es : List Expr} {rest : List Stmt} {d : D} {N : DEnd} {p pos pos' : Pos} {a : α}
/-- a call that raises nothing -/
theorem de_call (D : DefX X k x ps (spD X.K X.mg enc pre res)) (a : α) (hr : Room k X.A) (ha : DA X H0 ρ (e :: es) (enc a)) (hp : pre a) (ho : res a = .ok d) (hg : Gl X x) (hdb : (x == ("__debug__" : Str)) = false := by decide)
    (he : starEach (e :: es) X.env = (false, eval e X.env) :: starEach es X.env := by rfl) (hpl : (backTo pos (starEach es X.env)).any (·.1) = false := by rfl) : DE X H0 ρ (.Call (.Name x p) (e :: es) [] pos) d := by
  obtain ⟨f, fd, hm, hk, hb, Fk⟩ := D
  exact (pe_call Fk hr hg hm hk hb .nil passLN ha hdb he hpl).imp fun σ H Q ⟨G, y, sl, q⟩ => ⟨G, y, sl, fun vs G1 H1 z r => ⟨a, G1, z.gh, by rw [List.append_nil]; exact r, hp, fun d' h v G2 H2 t r2 => by
    rw [ho] at h; cases h
    exact q v G2 H2 (z.trans t) r2, fun n h => by rw [ho] at h; cases h⟩⟩
/-- a call that may raise, as a reading -/
theorem pe_callX (D : DefX X k x ps (spD X.K X.mg enc pre res)) (a : α) (hr : Room k X.A) (ha : DA X F.H0 ρ (e :: es) (enc a)) (hp : pre a) (tk : TakesE X F) (hg : Gl X x) (hdb : (x == ("__debug__" : Str)) = false := by decide)
    (he : starEach (e :: es) X.env = (false, eval e X.env) :: starEach es X.env := by rfl) (hpl : (backTo pos (starEach es X.env)).any (·.1) = false := by rfl) :
    PE X (.Call (.Name x p) (e :: es) [] pos) (fun σ H Q => ∃ G, Ex G H ∧ Slots X.K F.H0 G H σ ρ ∧ (∀ d, res a = .ok d → ∀ v G2 H2, Ext G H G2 H2 → Dp X.K G2 v d → Q v H2) ∧ (∀ n, res a = .err n → ∀ C G2 H2, X.mg n = some (.ref C) → Ext G H G2 H2 → F.E (.ref C) none H2)) := by
  obtain ⟨f, fd, hm, hk, hb, Fk⟩ := D
  exact (pe_call (E := F.E) Fk hr hg hm hk hb .nil (L2N.passes_call tk fun _ _ _ _ h => h) ha hdb he hpl).imp fun σ H Q ⟨G, y, sl, q1, q2⟩ => ⟨G, y, sl, fun vs G1 H1 z r => ⟨a, G1, z.gh, by rw [List.append_nil]; exact r, hp, fun d' h v G2 H2 t r2 => q1 d' h v G2 H2 (z.trans t) r2, fun n h C G2 H2 hm t => q2 n h C G2 H2 hm (z.trans t)⟩⟩
/-- f(..) as a statement -/
theorem ds_callX (D : DefX X k x ps (spD X.K X.mg enc pre res)) (a : α) (hr : Room k X.A) (ha : DA X F.H0 ρ (e :: es) (enc a)) (hp : pre a) (tk : TakesE X F) (hg : Gl X x) (hok : ∀ d, res a = .ok d → DS X F ρ rest N) (her : ∀ n, res a = .err n → N.ex n) (hdb : (x == ("__debug__" : Str)) = false := by decide)
    (he : starEach (e :: es) X.env = (false, eval e X.env) :: starEach es X.env := by rfl) (hpl : (backTo pos (starEach es X.env)).any (·.1) = false := by rfl) (hs : swapsWith (.Call (.Name x p) (e :: es) [] pos) none pos'.line X.env = pure false := by rfl) (hxs : N.xs ρ := by exact True.intro) :
    DS X F ρ (.Expr (.Call (.Name x p) (e :: es) [] pos) pos' :: rest) N :=
  (pss_cons (ps_expr (pe_callX D a hr ha hp tk hg hdb he hpl) hs) PSs.any).imp fun D' σ H ⟨G, x, sl, aa⟩ => ⟨G, x.gh, sl, fun d h v G2 H2 y r => ⟨_, hok d h, tS_up (D := D') (x.trans y) y.g (sl.up y) aa⟩, fun n h C G2 H2 hm y => aa.2.2.2.2 n C G2 H2 (her n h) hm (x.trans y) ρ σ hxs (sl.up y)⟩
/-- return f(..) -/
theorem ds_retX (D : DefX X k x ps (spD X.K X.mg enc pre res)) (a : α) (hr : Room k X.A) (ha : DA X F.H0 ρ (e :: es) (enc a)) (hp : pre a) (tk : TakesE X F) (hg : Gl X x) (hok : ∀ d, res a = .ok d → N.rt ρ d) (her : ∀ n, res a = .err n → N.ex n) (hdb : (x == ("__debug__" : Str)) = false := by decide)
    (he : starEach (e :: es) X.env = (false, eval e X.env) :: starEach es X.env := by rfl) (hpl : (backTo pos (starEach es X.env)).any (·.1) = false := by rfl) (hxs : N.xs ρ := by exact True.intro) :
    DS X F ρ (.Return (some (.Call (.Name x p) (e :: es) [] pos)) pos' :: rest) N :=
  (pss_cons (ps_ret (pe_callX D a hr ha hp tk hg hdb he hpl)) pss_never).imp fun D' σ H ⟨G, x, sl, aa⟩ => ⟨G, x.gh, sl, fun d h v G2 H2 y r => aa.2.2.2.1 ρ σ d v G2 H2 (hok d h) (x.trans y) (sl.up y) r, fun n h C G2 H2 hm y => aa.2.2.2.2 n C G2 H2 (her n h) hm (x.trans y) ρ σ hxs (sl.up y)⟩
/-- y = f(..) -/
theorem ds_setX {i : Nat} {y : Str} {py : Pos} (D : DefX X k x ps (spD X.K X.mg enc pre res)) (a : α) (hr : Room k X.A) (ha : DA X F.H0 ρ (e :: es) (enc a)) (hp : pre a) (tk : TakesE X F) (hg : Gl X x) (hok : ∀ d, res a = .ok d → DS X F (ρ.set i (.dat d)) rest N) (her : ∀ n, res a = .err n → N.ex n) (hN : X.N.Nodup) (hi : X.N[i]? = some y := by rfl) (hy : Loc X.env.scope y := by first | exact .inl rfl | exact .inr rfl)
    (hdb : (x == ("__debug__" : Str)) = false := by decide) (he : starEach (e :: es) X.env = (false, eval e X.env) :: starEach es X.env := by rfl) (hpl : (backTo pos (starEach es X.env)).any (·.1) = false := by rfl)
    (hs : swapsWith (.Call (.Name x p) (e :: es) [] pos) (some (.Name y py)) pos'.line X.env = pure false := by rfl) (hf : X.fn y = true ∨ X.env.scope.names.lookup y = some .local := by first | exact .inl rfl | exact .inr rfl | assumption) (hxs : N.xs ρ := by exact True.intro) :
    DS X F ρ (.Assign [.Name y py] (.Call (.Name x p) (e :: es) [] pos) pos' :: rest) N :=
  (pss_cons (ps_set hN hi hy (pe_callX D a hr ha hp tk hg hdb he hpl) hs hf) PSs.any).imp fun D' σ H ⟨G, x, sl, aa⟩ => ⟨G, x.gh, sl, fun d h v G2 H2 y r => ⟨_, hok d h, tS_up (D := D') (x.trans y) y.g ((sl.up y).setD r) aa⟩, fun n h C G2 H2 hm y => aa.2.2.2.2 n C G2 H2 (her n h) hm (x.trans y) ρ σ hxs (sl.up y)⟩
end
end DL
/-! DL5: the built-ins by name. -/
namespace DL
open PySem PySem.Spec PyProof.Rows L2

/-- the built-ins' names that the module doesn't take -/
def btNames : List Str := ["isinstance", "int", "bool", "str", "tuple", "list", "len", "all", "any", "sum", "max", "min", "sorted", "zip", "range", "enumerate", "set", "dict", "ValueError"]
def Bt (mg : Str → Option Value) : Prop := ∀ x ∈ btNames, mg x = none
theorem Bt.at {mg : Str → Option Value} (b : Bt mg) (x : Str) (h : btNames.contains x = true := by decide +kernel) : mg x = none := b x (List.contains_iff_mem.mp h)

section
variable {X : Cx} {H0 : Bs} {ρ : Env} {a b c e e2 : Expr} {es rest : List Expr} {d da db dc : D} {ds ds' xs ys : List D} {pos p1 p2 : Pos} {p q : Bool} {k : Nat} {tg : Expr}

theorem v (i : Nat) {x : Str} (h : ρ[i]? = some (.dat d) := by rfl) (hN : X.N[i]? = some x := by rfl) (hv : Vis X.env.scope x := by first | exact Or.inl rfl | exact Or.inr (Or.inl rfl) | exact Or.inr (Or.inr rfl)) (hd : (x == ("__debug__" : Str)) = false := by decide)
    (hcd : (x == ("__classdict__" : Str)) = false := by decide) : DE X H0 ρ (.Name x pos) d := de_var i h hN hv hd hcd
theorem vo (i : Nat) {x : Str} {p9 : Option Addr} (h : ρ[i]? = some (.own ds p9) := by rfl) (hN : X.N[i]? = some x := by rfl) (hv : Vis X.env.scope x := by first | exact Or.inl rfl | exact Or.inr (Or.inl rfl) | exact Or.inr (Or.inr rfl)) (hd : (x == ("__debug__" : Str)) = false := by decide)
    (hcd : (x == ("__classdict__" : Str)) = false := by decide) : DR X H0 ρ (.Name x pos) ds := dr_own i h hN hv hd hcd

/-! isinstance -/
section
variable (bt : Bt X.mg) (ha : DE X H0 ρ a d) (hg : Gl X "isinstance" := by rfl)
include bt ha
theorem isInt (hg : Gl X "isinstance" := by rfl) (hg2 : Gl X "int" := by rfl) (he : starEach (a :: [.Name "int" p2]) X.env = (false, eval a X.env) :: starEach [.Name "int" p2] X.env := by rfl) (he2 : starEach (.Name "int" p2 :: []) X.env = (false, eval (.Name "int" p2) X.env) :: starEach [] X.env := by rfl) (hpl : (backTo pos (starEach [.Name "int" p2] X.env)).any (·.1) = false := by rfl) :
    DE X H0 ρ (.Call (.Name "isinstance" p1) [a, .Name "int" p2] [] pos) (.bool d.isInt) := de_isi ci_int hg (bt.at _) hg2 (bt.at _) (by decide +kernel) ha (by decide) (by decide) he he2 hpl
theorem isBool (hg : Gl X "isinstance" := by rfl) (hg2 : Gl X "bool" := by rfl) (he : starEach (a :: [.Name "bool" p2]) X.env = (false, eval a X.env) :: starEach [.Name "bool" p2] X.env := by rfl) (he2 : starEach (.Name "bool" p2 :: []) X.env = (false, eval (.Name "bool" p2) X.env) :: starEach [] X.env := by rfl) (hpl : (backTo pos (starEach [.Name "bool" p2] X.env)).any (·.1) = false := by rfl) :
    DE X H0 ρ (.Call (.Name "isinstance" p1) [a, .Name "bool" p2] [] pos) (.bool d.isBool) := de_isi ci_bool hg (bt.at _) hg2 (bt.at _) (by decide +kernel) ha (by decide) (by decide) he he2 hpl
theorem isStr (hg : Gl X "isinstance" := by rfl) (hg2 : Gl X "str" := by rfl) (he : starEach (a :: [.Name "str" p2]) X.env = (false, eval a X.env) :: starEach [.Name "str" p2] X.env := by rfl) (he2 : starEach (.Name "str" p2 :: []) X.env = (false, eval (.Name "str" p2) X.env) :: starEach [] X.env := by rfl) (hpl : (backTo pos (starEach [.Name "str" p2] X.env)).any (·.1) = false := by rfl) :
    DE X H0 ρ (.Call (.Name "isinstance" p1) [a, .Name "str" p2] [] pos) (.bool d.isStr) := de_isi ci_str hg (bt.at _) hg2 (bt.at _) (by decide +kernel) ha (by decide) (by decide) he he2 hpl
theorem isTuple (hg : Gl X "isinstance" := by rfl) (hg2 : Gl X "tuple" := by rfl) (he : starEach (a :: [.Name "tuple" p2]) X.env = (false, eval a X.env) :: starEach [.Name "tuple" p2] X.env := by rfl) (he2 : starEach (.Name "tuple" p2 :: []) X.env = (false, eval (.Name "tuple" p2) X.env) :: starEach [] X.env := by rfl) (hpl : (backTo pos (starEach [.Name "tuple" p2] X.env)).any (·.1) = false := by rfl) :
    DE X H0 ρ (.Call (.Name "isinstance" p1) [a, .Name "tuple" p2] [] pos) (.bool d.isTuple) := de_isi ci_tuple hg (bt.at _) hg2 (bt.at _) (by decide +kernel) ha (by decide) (by decide) he he2 hpl
theorem isList (hg : Gl X "isinstance" := by rfl) (hg2 : Gl X "list" := by rfl) (he : starEach (a :: [.Name "list" p2]) X.env = (false, eval a X.env) :: starEach [.Name "list" p2] X.env := by rfl) (he2 : starEach (.Name "list" p2 :: []) X.env = (false, eval (.Name "list" p2) X.env) :: starEach [] X.env := by rfl) (hpl : (backTo pos (starEach [.Name "list" p2] X.env)).any (·.1) = false := by rfl) :
    DE X H0 ρ (.Call (.Name "isinstance" p1) [a, .Name "list" p2] [] pos) (.bool d.isList) := de_isi ci_list hg (bt.at _) hg2 (bt.at _) (by decide +kernel) ha (by decide) (by decide) he he2 hpl
end
/-! calls of one argument -/
section
variable (bt : Bt X.mg)
include bt
theorem lenT (ha : DE X H0 ρ e (.tuple xs)) (hg : Gl X "len" := by rfl) (he : starEach (e :: []) X.env = (false, eval e X.env) :: starEach [] X.env := by rfl) (hpl : (backTo pos (starEach [] X.env)).any (·.1) = false := by rfl) : DE X H0 ρ (.Call (.Name "len" p1) [e] [] pos) (.int xs.length) :=
  de_callB call_len cd_lenT hg (bt.at _) (by decide +kernel) (da_cons ha da_nil he) (by decide) (by decide) he hpl
theorem lenS {z : Str} (hz : z.length ≤ sizeLine) (ha : DE X H0 ρ e (.str z)) (hg : Gl X "len" := by rfl) (he : starEach (e :: []) X.env = (false, eval e X.env) :: starEach [] X.env := by rfl) (hpl : (backTo pos (starEach [] X.env)).any (·.1) = false := by rfl) : DE X H0 ρ (.Call (.Name "len" p1) [e] [] pos) (.int z.length) :=
  de_callB call_len (cd_lenS hz) hg (bt.at _) (by decide +kernel) (da_cons ha da_nil he) (by decide) (by decide) he hpl
theorem lenR (ha : DR X H0 ρ e xs) (hg : Gl X "len" := by rfl) (he : starEach (e :: []) X.env = (false, eval e X.env) :: starEach [] X.env := by rfl) (hpl : (backTo pos (starEach [] X.env)).any (·.1) = false := by rfl) : DE X H0 ρ (.Call (.Name "len" p1) [e] [] pos) (.int xs.length) :=
  de_callBR call_len cd_lenR hg (bt.at _) (by decide +kernel) ha (by decide) (by decide) he hpl
theorem allR {bs : List Bool} (hc : X.calm = true) (ha : DR X H0 ρ e (bs.map .bool)) (hg : Gl X "all" := by rfl) (he : starEach (e :: []) X.env = (false, eval e X.env) :: starEach [] X.env := by rfl) (hpl : (backTo pos (starEach [] X.env)).any (·.1) = false := by rfl) : DE X H0 ρ (.Call (.Name "all" p1) [e] [] pos) (.bool (bs.all id)) :=
  de_callBR (cr_all hc) cd_all hg (bt.at _) (by decide +kernel) ha (by decide) (by decide) he hpl
theorem anyR {bs : List Bool} (hc : X.calm = true) (ha : DR X H0 ρ e (bs.map .bool)) (hg : Gl X "any" := by rfl) (he : starEach (e :: []) X.env = (false, eval e X.env) :: starEach [] X.env := by rfl) (hpl : (backTo pos (starEach [] X.env)).any (·.1) = false := by rfl) : DE X H0 ρ (.Call (.Name "any" p1) [e] [] pos) (.bool (bs.any id)) :=
  de_callBR (cr_any hc) cd_any hg (bt.at _) (by decide +kernel) ha (by decide) (by decide) he hpl
theorem sumR {ns : List Int} (hc : X.calm = true) (ha : DR X H0 ρ e (ns.map .int)) (hg : Gl X "sum" := by rfl) (he : starEach (e :: []) X.env = (false, eval e X.env) :: starEach [] X.env := by rfl) (hpl : (backTo pos (starEach [] X.env)).any (·.1) = false := by rfl) : DE X H0 ρ (.Call (.Name "sum" p1) [e] [] pos) (.int ns.sum) :=
  de_callBR (cr_sum hc) cd_sum hg (bt.at _) (by decide +kernel) ha (by decide) (by decide) he hpl
theorem tupleR (ha : DR X H0 ρ e xs) (hg : Gl X "tuple" := by rfl) (he : starEach (e :: []) X.env = (false, eval e X.env) :: starEach [] X.env := by rfl) (hpl : (backTo pos (starEach [] X.env)).any (·.1) = false := by rfl) : DE X H0 ρ (.Call (.Name "tuple" p1) [e] [] pos) (.tuple xs) :=
  de_callTyR call_tuple_of cd_tupleR hg (bt.at _) (by decide +kernel) ha (by decide) (by decide) he hpl
theorem tupleT (ha : DE X H0 ρ e (.tuple xs)) (hg : Gl X "tuple" := by rfl) (he : starEach (e :: []) X.env = (false, eval e X.env) :: starEach [] X.env := by rfl) (hpl : (backTo pos (starEach [] X.env)).any (·.1) = false := by rfl) : DE X H0 ρ (.Call (.Name "tuple" p1) [e] [] pos) (.tuple xs) :=
  de_callTy call_tuple_of cd_tupleT hg (bt.at _) (by decide +kernel) (da_cons ha da_nil he) (by decide) (by decide) he hpl
theorem listR (ha : DR X H0 ρ e xs) (hg : Gl X "list" := by rfl) (he : starEach (e :: []) X.env = (false, eval e X.env) :: starEach [] X.env := by rfl) (hpl : (backTo pos (starEach [] X.env)).any (·.1) = false := by rfl) : DL X H0 ρ (.Call (.Name "list" p1) [e] [] pos) xs :=
  dl_callTyR call_list_of cd_listR hg (bt.at _) (by decide +kernel) ha (by decide) (by decide) he hpl
theorem listT (ha : DE X H0 ρ e (.tuple xs)) (hg : Gl X "list" := by rfl) (he : starEach (e :: []) X.env = (false, eval e X.env) :: starEach [] X.env := by rfl) (hpl : (backTo pos (starEach [] X.env)).any (·.1) = false := by rfl) : DL X H0 ρ (.Call (.Name "list" p1) [e] [] pos) xs :=
  dl_listT hg (bt.at _) (by decide +kernel) ha (by decide) (by decide) he hpl
theorem sortedR (hr : Room k X.A) (hal : PySem.W.AllAlike xs) (hk : PySem.W.Sortable xs) (hd : ∀ d ∈ xs, d.depth ≤ 50) (ha : DR X H0 ρ e xs) (hg : Gl X "sorted" := by rfl) (he : starEach (e :: []) X.env = (false, eval e X.env) :: starEach [] X.env := by rfl) (hpl : (backTo pos (starEach [] X.env)).any (·.1) = false := by rfl) : DL X H0 ρ (.Call (.Name "sorted" p1) [e] [] pos) (dsort xs) :=
  dl_callBR (cr_sortP hr.units) (cd_sort hal hk hd) hg (bt.at _) (by decide +kernel) ha (by decide) (by decide) he hpl
theorem intB {z : Bool} (ha : DE X H0 ρ e (.bool z)) (hg : Gl X "int" := by rfl) (he : starEach (e :: []) X.env = (false, eval e X.env) :: starEach [] X.env := by rfl) (hpl : (backTo pos (starEach [] X.env)).any (·.1) = false := by rfl) : DE X H0 ρ (.Call (.Name "int" p1) [e] [] pos) (.int (if z then 1 else 0)) :=
  de_callTy call_int1 cd_intB hg (bt.at _) (by decide +kernel) (da_cons ha da_nil he) (by decide) (by decide) he hpl
theorem max2 {i j : Int} (hc : X.calm = true) (ha : DE X H0 ρ e (.int i)) (hb : DE X H0 ρ e2 (.int j)) (hg : Gl X "max" := by rfl) (he : starEach (e :: [e2]) X.env = (false, eval e X.env) :: starEach [e2] X.env := by rfl) (he2 : starEach (e2 :: []) X.env = (false, eval e2 X.env) :: starEach [] X.env := by rfl) (hpl : (backTo pos (starEach [e2] X.env)).any (·.1) = false := by rfl) :
    DE X H0 ρ (.Call (.Name "max" p1) [e, e2] [] pos) (.int (if j > i then j else i)) := de_callB (call_max2 hc) cd_max2 hg (bt.at _) (by decide +kernel) (da_cons ha (da_cons hb da_nil he2) he) (by decide) (by decide) he hpl
theorem min2 {i j : Int} (hc : X.calm = true) (ha : DE X H0 ρ e (.int i)) (hb : DE X H0 ρ e2 (.int j)) (hg : Gl X "min" := by rfl) (he : starEach (e :: [e2]) X.env = (false, eval e X.env) :: starEach [e2] X.env := by rfl) (he2 : starEach (e2 :: []) X.env = (false, eval e2 X.env) :: starEach [] X.env := by rfl) (hpl : (backTo pos (starEach [e2] X.env)).any (·.1) = false := by rfl) :
    DE X H0 ρ (.Call (.Name "min" p1) [e, e2] [] pos) (.int (if j < i then j else i)) := de_callB (call_min2 hc) cd_min2 hg (bt.at _) (by decide +kernel) (da_cons ha (da_cons hb da_nil he2) he) (by decide) (by decide) he hpl
/-! what is walked -/
theorem range1 {n : Int} (ha : DE X H0 ρ e (.int n)) (hn : -(2 ^ 62) ≤ n ∧ n < 2 ^ 62) (hg : Gl X "range" := by rfl) (he : starEach (e :: []) X.env = (false, eval e X.env) :: starEach [] X.env := by rfl) (hs : starEach [e] X.env = [(false, eval e X.env)] := by rfl) : DI X H0 ρ tg (.Call (.Name "range" p1) [e] [] pos) ((List.range n.toNat).map fun i => .int (i : Nat)) :=
  di_range (da_cons ha da_nil he) hn hg (bt.at _) hs
theorem range2 {m n : Int} (ha : DE X H0 ρ e (.int m)) (hb : DE X H0 ρ e2 (.int n)) (hn : -(2 ^ 62) ≤ m ∧ m < 2 ^ 62 ∧ -(2 ^ 62) ≤ n ∧ n < 2 ^ 62) (hg : Gl X "range" := by rfl) (he : starEach (e :: [e2]) X.env = (false, eval e X.env) :: starEach [e2] X.env := by rfl) (he2 : starEach (e2 :: []) X.env = (false, eval e2 X.env) :: starEach [] X.env := by rfl) (hs : starEach [e, e2] X.env = [(false, eval e X.env), (false, eval e2 X.env)] := by rfl) (hs2 : starEach [e2] X.env = [(false, eval e2 X.env)] := by rfl) :
    DI X H0 ρ tg (.Call (.Name "range" p1) [e, e2] [] pos) ((List.range (n - m).toNat).map fun i => .int (m + (i : Nat))) := di_range2 (da_cons ha (da_cons hb da_nil he2) he) hn hg (bt.at _) hs hs2
variable {elts : List Expr} {kk : Nat} {tpos : Pos}
theorem zipT (ha : DE X H0 ρ e (.tuple ds)) (hb : DE X H0 ρ e2 (.tuple ds')) (hg : Gl X "zip" := by rfl) (he : starEach (e :: [e2]) X.env = (false, eval e X.env) :: starEach [e2] X.env := by rfl) (he2 : starEach (e2 :: []) X.env = (false, eval e2 X.env) :: starEach [] X.env := by rfl) (hpl : (backTo pos (starEach [e2] X.env)).any (·.1) = false := by rfl) :
    DI X H0 ρ (.Tuple elts kk tpos) (.Call (.Name "zip" p1) [e, e2] [] pos) (List.zipWith (fun a b => .tuple [a, b]) ds ds') := di_zipT (da_cons ha (da_cons hb da_nil he2) he) hg (bt.at _) he hpl
theorem zipL (ha : DE X H0 ρ e (.list ds)) (hb : DE X H0 ρ e2 (.list ds')) (hg : Gl X "zip" := by rfl) (he : starEach (e :: [e2]) X.env = (false, eval e X.env) :: starEach [e2] X.env := by rfl) (he2 : starEach (e2 :: []) X.env = (false, eval e2 X.env) :: starEach [] X.env := by rfl) (hpl : (backTo pos (starEach [e2] X.env)).any (·.1) = false := by rfl) :
    DI X H0 ρ (.Tuple elts kk tpos) (.Call (.Name "zip" p1) [e, e2] [] pos) (List.zipWith (fun a b => .tuple [a, b]) ds ds') := di_zipL (da_cons ha (da_cons hb da_nil he2) he) hg (bt.at _) he hpl
theorem enumL (ha : DE X H0 ρ e (.list ds)) (hg : Gl X "enumerate" := by rfl) (he : starEach (e :: []) X.env = (false, eval e X.env) :: starEach [] X.env := by rfl) (hs : starEach [e] X.env = [(false, eval e X.env)] := by rfl) :
    DI X H0 ρ (.Tuple elts kk tpos) (.Call (.Name "enumerate" p1) [e] [] pos) (ds.zipIdx.map fun z => .tuple [.int (z.2 : Nat), z.1]) := di_enumL (da_cons ha da_nil he) hg (bt.at _) hs
end
/-! texts -/
theorem di_str {z : Str} (h : DE X H0 ρ e (.str z)) : DI X H0 ρ tg e (z.cps.toList.map fun c => .str ⟨#[c]⟩) := (pi_str h).imp fun σ H R ⟨G, x, sl, q⟩ => ⟨G, x, sl, fun u G1 H1 y r => by
  obtain rfl := dp_str r
  refine ⟨z, rfl, q _ G1 H1 y ?_⟩
  rw [WalkD, List.length_map, Array.length_toList]
  refine ⟨_, walk_str.mono (fun _ _ => trivial) fun i H x H' _ _ y => y, fun i H' x H'' G' y e1 e2 => ?_⟩
  obtain ⟨rfl, c, hc, rfl⟩ := y
  exact ⟨G', _, Ext.refl e2, by rw [List.getElem?_map, Array.getElem?_toList, hc]; rfl, .str _⟩⟩
theorem od_inSign {c : Nat} {z : Str} : OpD X (fun x y H Q => ∃ (c : Nat) (z : Str), x = .str ⟨#[c]⟩ ∧ y = .str z ∧ Q (.bl (decide (c ∈ z.cps.toList))) H) (.str ⟨#[c]⟩) (.str z) (.bool (decide (c ∈ z.cps.toList))) :=
  fun x y G H Q e r1 r2 q => ⟨c, z, dp_str r1, dp_str r2, q _ G H (Ext.refl e) (.bl _)⟩
theorem od_ltS {x y : Str} : OpD X (fun x y H Q => ∃ i j, x = .str i ∧ y = .str j ∧ Q (.bl (decide (i.cps.toList < j.cps.toList))) H) (.str x) (.str y) (.bool (decide (x.cps.toList < y.cps.toList))) :=
  fun v u G H Q e r1 r2 q => ⟨x, y, dp_str r1, dp_str r2, q _ G H (Ext.refl e) (.bl _)⟩
end
/-- typed data -/
def strsD (l : List Str) : D := .tuple (l.map .str)
def intsD (l : List Int) : D := .tuple (l.map .int)
section
variable {α β : Type}
theorem map_id_map (l : List α) (g : α → D) (p : α → Bool) (h : ∀ x, p x = true) : (l.filter p).map g = l.map g := by rw [List.filter_eq_self.mpr fun x _ => h x]
end
end DL
/-! DL6: a def of the text as it stands behind the top. -/
namespace DL
open PySem PySem.Spec PyProof.Rows L2
def DefAt (K : PySem.W.Frag) (mg : Str → Option Value) (x : Str) (st : Stmt) (ps : List Str) : Prop := ∃ f fd, mg x = some (.ref f) ∧ Fun K x x st f fd ∧ Binds K fd ps []
section
variable {P : Program} {w : World} {K : PySem.W.Frag} {mg : Str → Option Value} {base : Heap} {α : Type} {enc : α → List D} {pre : α → Prop} {res : α → Out} {x : Str} {st : Stmt} {N ps : List Str} {k : Nat}
/-- THE RULE for a def, as it is called -/
theorem DefAt.ok (h : DefAt K mg x st ps) (S : FnScope N ps (defScope st)) (hlen : ∀ a, (enc a).length = ps.length)
    (body : ∀ a, pre a → ∀ (f : Addr) (cdv : Value) (A : Around) (outer : List PySem.Env) (s : Shared) (H G : Hp) (E : XK), Room k (A.deeper (envOfC x (defScope st) s.heap.objs.size f cdv)) →
      TakesE (cxOf (L2N.CX P w) P w K mg base N x (defScope st) f cdv A outer s H E) ⟨.of H, G, E⟩ → PassesOwn (model P w) (cxOf (L2N.CX P w) P w K mg base N x (defScope st) f cdv A outer s H E).A (cxOf (L2N.CX P w) P w K mg base N x (defScope st) f cdv A outer s H E).env (cxOf (L2N.CX P w) P w K mg base N x (defScope st) f cdv A outer s H E).xe →
      DS (cxOf (L2N.CX P w) P w K mg base N x (defScope st) f cdv A outer s H E) ⟨.of H, G, E⟩ (startE N (enc a)) (defBody st) (endOf (res a))) : DefOk P w K mg base (k + 1) x ps (spD K mg enc pre res) := by
  obtain ⟨f, fd, hm, F, hb⟩ := h
  exact ⟨f, fd, hm, F.kp, hb, def_ok F S hlen fun a hp cdv A outer s H G E hr tk hpo => body a hp f cdv A outer s H G E hr tk hpo⟩
theorem DefOk.mono {j : Nat} {sp : Sp} (h : DefOk P w K mg base j x ps sp) (hj : j ≤ k) : DefOk P w K mg base k x ps sp := by
  obtain ⟨f, fd, hm, hk, hb, F⟩ := h
  exact ⟨f, fd, hm, hk, hb, F.mono hj⟩
end
section
variable {X : Cx} {H0 : Bs} {ρ : Env} {tg iter elt : Expr} {ifs : List Expr} {scope : Scope} {own : List (Str × Nat)} {pos : Pos} {α : Type} {xs : List α} {enc : α → D}
/-- a comprehension without tests -/
theorem dl_map (g : α → D) (hc : X.calm = true) (hN : X.N.Nodup) (hi : DI X H0 ρ tg iter (xs.map enc)) (ok : BlkOk X.N X.env.scope scope own) (hz : xs.length ≤ 100000) (hb : ∀ x ∈ xs, LcTurn X H0 ρ tg [] elt scope (own.map (·.2)) (enc x) true (g x))
    (hs : ∀ x, foldedSetIterable iter X.env x = pure x := by intro _; rfl) : DL X H0 ρ (.ListComp elt [⟨tg, iter, [], 0⟩] scope pos) (xs.map g) := by
  have h := dl_lc (pos := pos) (fun _ => true) g hc hN hi ok hz hb hs
  rwa [List.filter_eq_self.mpr fun _ _ => rfl] at h
end
end DL
namespace DL
open PySem PySem.Spec PyProof.Rows L2
section
variable {X : Cx} {F : Fr0} {ρ : Env} {tg iter elt a b c e : Expr} {ifs es rest : List Expr} {scope : Scope} {own : List (Str × Nat)} {pos spos p1 p2 : Pos} {α : Type} {xs : List α} {enc : α → D} {sts : List Stmt} {N : DEnd} {ds ds1 ds2 : List D} {p : Bool} {H0 : Bs}
/-- y = [elt for ..] on one line, y a local: the list is y's own -/
theorem ds_setLc {i : Nat} {y : Str} {py : Pos} (p : α → Bool) (g : α → D) (hc : X.calm = true) (hN : X.N.Nodup) (hi : DI X F.H0 ρ tg iter (xs.map enc)) (ok : BlkOk X.N X.env.scope scope own) (hz : xs.length ≤ 100000) (hb : ∀ x ∈ xs, LcTurn X F.H0 ρ tg ifs elt scope (own.map (·.2)) (enc x) (p x) (g x))
    (hr : DS X F (ρ.set i (.own ((xs.filter p).map g))) sts N) (hsw : swapsWith (.ListComp elt [⟨tg, iter, ifs, 0⟩] scope pos) (some (.Name y py)) spos.line X.env = pure true) (hy : X.N[i]? = some y := by rfl) (hyl : X.env.scope.names.lookup y = some .local := by rfl)
    (hs : ∀ x, foldedSetIterable iter X.env x = pure x := by intro _; rfl) : DS X F ρ (.Assign [.Name y py] (.ListComp elt [⟨tg, iter, ifs, 0⟩] scope pos) spos :: sts) N :=
  (pss_cons (ps_setLc (own := own) (wi := tI X.K F.H0 ρ (xs.map enc)) (g := lcG X scope tg) (tt := lcT X scope ifs) (te := lcE X scope elt) hc hN hy hyl hsw hi ok
    (fun s H C cl fp => ⟨fun pins s' σ H' v u Q I r ⟨t, h, q⟩ => (h s H C cl fp).run pins s' σ H' v u Q I r q⟩)
    (fun s H C cl fp => ⟨fun pins s' σ H' Q I ⟨t, h, q⟩ => (h s H C cl fp).run pins s' σ H' Q I q⟩)
    (fun s H C cl fp => ⟨fun pins s' σ H' Q I ⟨t, h, q⟩ => (h s H C cl fp).run pins s' σ H' Q I q⟩) hs) hr).imp fun D σ H ⟨G, x, sl, aa⟩ =>
    lc_reading p g hz hb σ H (fun u H1 => gName i u σ H1 fun σ' H' => tS X.K X.mg F (ρ.set i (.own ((xs.filter p).map g))) N D σ' H') ⟨G, x.gh, sl, fun q vs G1 H1 y n n1 hq r => tS_up (D := D) (x.trans y) y.g (fresh_own (H0 := F.H0) x sl y n n1 hq r) aa⟩
/-- x, y = [..], [..], whatever the names' kinds -/
theorem ds_parL2 {i j : Nat} {x y : Str} {px py pt : Pos} {kt k2 pt2} (ha : DL X F.H0 ρ a ds1) (hb : DL X F.H0 ρ b ds2) (hr : DS X F ((ρ.set i (.own ds1)).set j (.own ds2)) sts N) (hc : X.calm = true) (hN : X.N.Nodup) (hi : X.N[i]? = some x := by rfl) (hj : X.N[j]? = some y := by rfl) (hij : i ≠ j := by decide)
    (hx : Loc X.env.scope x := by first | exact .inl rfl | exact .inr rfl) (hy : Loc X.env.scope y := by first | exact .inl rfl | exact .inr rfl) (hfx : X.fn x = true ∨ X.env.scope.names.lookup x = some .local := by first | exact .inl rfl | exact .inr rfl | assumption) (hfy : X.fn y = true ∨ X.env.scope.names.lookup y = some .local := by first | exact .inl rfl | exact .inr rfl | assumption)
    (hw : swappedStores [.Tuple [.Name x px, .Name y py] kt pt] (.Tuple [a, b] k2 pt2) X.env = pure none := by rfl) (hs : swapsWithSole [.Tuple [.Name x px, .Name y py] kt pt] (.Tuple [a, b] k2 pt2) pos.line X.env = pure false := by rfl)
    (h1 : (assignEach [.Tuple [.Name x px, .Name y py] kt pt] X.env).map (·.2) = [assign (.Tuple [.Name x px, .Name y py] kt pt) X.env] := by rfl)
    (hs1 : starEach (a :: [b]) X.env = (false, eval a X.env) :: starEach [b] X.env := by rfl) (hs2 : starEach (b :: []) X.env = (false, eval b X.env) :: starEach [] X.env := by rfl)
    (ht1 : (assignEach [.Name x px, .Name y py] X.env).map (·.2) = assign (.Name x px) X.env :: (assignEach [.Name y py] X.env).map (·.2) := by rfl) (ht2 : (assignEach [.Name y py] X.env).map (·.2) = assign (.Name y py) X.env :: (assignEach [] X.env).map (·.2) := by rfl)
    (hn : (assignEach [.Name x px, .Name y py] X.env).length = 2 := by rfl) (hst : (assignEach [.Name x px, .Name y py] X.env).findIdx? (·.1) = none := by rfl) :
    DS X F ρ (.Assign [.Tuple [.Name x px, .Name y py] kt pt] (.Tuple [a, b] k2 pt2) pos :: sts) N :=
  (pss_cons (ps_asg (pe_tup (pa_cons ha (pa_cons hb pa_nil hs2) hs1)) (pg_tup hc (pgs_cons (pg_name hN hi hx hfx) (pgs_cons (pg_name hN hj hy hfy) pgs_nil ht2) ht1) hn hst) hs hw h1) hr).imp fun D σ H ⟨G, x, sl, aa⟩ => ⟨G, x.gh, sl, fun q vs G1 H1 y n n1 hq r => by
    refine ⟨G1, y.gh, sl.up y, fun q2 vs2 G2 H2 z m m1 hq2 r2 => ⟨by show 2 ≤ sizeLine; decide, fun T hT => ?_⟩⟩
    refine ⟨T, [.ref q, .ref q2], rfl, .inl (.inl upd_same), rfl, .ref q, [.ref q2], rfl, .ref q2, [], rfl, rfl, ?_⟩
    have s1 : Slots X.K F.H0 G2 H2 (σ.set i (some (.ref q))) (ρ.set i (.own ds1)) := (fresh_own (H0 := F.H0) x sl y n n1 hq r).up z
    have s2 := s1.setO (i := j) (p9 := none) ((x.trans y).h.back m) m1 hq2 r2 ((fresh_own (H0 := F.H0) (i := i) x sl y n n1 hq r).free m)
    have xT : Ext G2 H2 G2 (upd H2 T (.tup [.ref q, .ref q2])) := Ext.heap z.gh (Ex.new hT)
    exact tS_up (D := D) (((x.trans y).trans z).trans xT) (y.g.trans z.g) (s2.up xT) aa⟩
theorem dl_if (ht : DT X H0 ρ c p) (ha : p = true → DL X H0 ρ a ds1) (hb : p = false → DL X H0 ρ b ds2) : DL X H0 ρ (.IfExp c a b pos) (if p = true then ds1 else ds2) := by
  cases p with
  | true => exact dl_ifS ht (fun h => ha h) (fun h => by cases h)
  | false => exact dl_ifS ht (fun h => by cases h) (fun h => hb h)
end
end DL
/-! DL7: short rules. -/
namespace DL
open PySem PySem.Spec PyProof.Rows L2
section
variable {X : Cx} {H0 : Bs} {ρ : Env} {a b c e : Expr} {i j : Int} {x y : Str} {d : D} {pos : Pos} {k : Nat}
theorem eqv_int (a b : Int) : PyData.eqv (.int a) (.int b) = decide (a = b) := PySem.W.Datum.eqv (α := Int) a b
theorem eqv_str (a b : Str) : PyData.eqv (.str a) (.str b) = decide (a = b) := PySem.W.Datum.eqv (α := Str) a b
theorem eqI (hr : Room k X.A) (ha : DE X H0 ρ a (.int i)) (hb : DE X H0 ρ b (.int j)) (hm : behindInMarks .Eq b = false := by first | exact nomark _ | rfl) : DT X H0 ρ (.Compare a [.Eq] [b] pos) (decide (i = j)) :=
  dt_to (dt_cmp (op_eqP hr.units) (od_eqP rfl rfl (.inl (Nat.zero_le _))) ha hb hm) (eqv_int i j)
theorem neI (hr : Room k X.A) (ha : DE X H0 ρ a (.int i)) (hb : DE X H0 ρ b (.int j)) (hm : behindInMarks .NotEq b = false := by first | exact nomark _ | rfl) : DT X H0 ρ (.Compare a [.NotEq] [b] pos) (!decide (i = j)) :=
  dt_to (dt_cmp (op_neP hr.units) (od_neP rfl rfl (.inl (Nat.zero_le _))) ha hb hm) (by rw [eqv_int])
theorem eqIe (hr : Room k X.A) (ha : DE X H0 ρ a (.int i)) (hb : DE X H0 ρ b (.int j)) (hm : behindInMarks .Eq b = false := by first | exact nomark _ | rfl) : DE X H0 ρ (.Compare a [.Eq] [b] pos) (.bool (decide (i = j))) :=
  de_to (de_cmp (op_eqP hr.units) (od_eqP rfl rfl (.inl (Nat.zero_le _))) ha hb hm) (by rw [eqv_int])
theorem neIe (hr : Room k X.A) (ha : DE X H0 ρ a (.int i)) (hb : DE X H0 ρ b (.int j)) (hm : behindInMarks .NotEq b = false := by first | exact nomark _ | rfl) : DE X H0 ρ (.Compare a [.NotEq] [b] pos) (.bool (!decide (i = j))) :=
  de_to (de_cmp (op_neP hr.units) (od_neP rfl rfl (.inl (Nat.zero_le _))) ha hb hm) (by rw [eqv_int])
theorem eqS (hr : Room k X.A) (ha : DE X H0 ρ a (.str x)) (hb : DE X H0 ρ b (.str y)) (hm : behindInMarks .Eq b = false := by first | exact nomark _ | rfl) : DT X H0 ρ (.Compare a [.Eq] [b] pos) (decide (x = y)) :=
  dt_to (dt_cmp (op_eqP hr.units) (od_eqP rfl rfl (.inl (Nat.zero_le _))) ha hb hm) (eqv_str x y)
theorem eqSe (hr : Room k X.A) (ha : DE X H0 ρ a (.str x)) (hb : DE X H0 ρ b (.str y)) (hm : behindInMarks .Eq b = false := by first | exact nomark _ | rfl) : DE X H0 ρ (.Compare a [.Eq] [b] pos) (.bool (decide (x = y))) :=
  de_to (de_cmp (op_eqP hr.units) (od_eqP rfl rfl (.inl (Nat.zero_le _))) ha hb hm) (by rw [eqv_str])
theorem leIe (ha : DE X H0 ρ a (.int i)) (hb : DE X H0 ρ b (.int j)) (hm : behindInMarks .LtE b = false := by first | exact nomark _ | rfl) : DE X H0 ρ (.Compare a [.LtE] [b] pos) (.bool (decide (i ≤ j))) := de_cmp op_le od_le ha hb hm
theorem gtIe (ha : DE X H0 ρ a (.int i)) (hb : DE X H0 ρ b (.int j)) (hm : behindInMarks .Gt b = false := by first | exact nomark _ | rfl) : DE X H0 ρ (.Compare a [.Gt] [b] pos) (.bool (decide (j < i))) := de_cmp op_gt od_gt ha hb hm
theorem leI (ha : DE X H0 ρ a (.int i)) (hb : DE X H0 ρ b (.int j)) (hm : behindInMarks .LtE b = false := by first | exact nomark _ | rfl) : DT X H0 ρ (.Compare a [.LtE] [b] pos) (decide (i ≤ j)) := dt_cmp op_le od_le ha hb hm
theorem gtI (ha : DE X H0 ρ a (.int i)) (hb : DE X H0 ρ b (.int j)) (hm : behindInMarks .Gt b = false := by first | exact nomark _ | rfl) : DT X H0 ρ (.Compare a [.Gt] [b] pos) (decide (j < i)) := dt_cmp op_gt od_gt ha hb hm
theorem dr_e {ds : List D} (h : DE X H0 ρ e (.list ds)) : DR X H0 ρ e ds := de_r h
end
section
variable {X : Cx} {H0 : Bs} {ρ : Env} {a b c e : Expr} {rest : List Expr} {p q : Bool} {pos : Pos}
theorem dw_orT (ha : DT X H0 ρ a p) (h : p = true := by rfl) : DW X H0 ρ (.BoolOp .Or (a :: b :: rest) pos) true := by
  subst h; exact dw_or (q := true) ha fun h => by cases h
theorem dw_orF (ha : DT X H0 ρ a p) (hb : DW X H0 ρ (.BoolOp .Or (b :: rest) pos) q) (h : p = false := by rfl) : DW X H0 ρ (.BoolOp .Or (a :: b :: rest) pos) q := by
  subst h; exact dw_or ha fun _ => hb
theorem dw_andF (ha : DT X H0 ρ a p) (h : p = false := by rfl) : DW X H0 ρ (.BoolOp .And (a :: b :: rest) pos) false := by
  subst h; exact dw_and (q := true) ha fun h => by cases h
theorem dw_andT (ha : DT X H0 ρ a p) (hb : DW X H0 ρ (.BoolOp .And (b :: rest) pos) q) (h : p = true := by rfl) : DW X H0 ρ (.BoolOp .And (a :: b :: rest) pos) q := by
  subst h; exact dw_and ha fun _ => hb
theorem de_orT (ha : DE X H0 ρ a (.bool p)) (h : p = true := by rfl) : DE X H0 ρ (.BoolOp .Or (a :: b :: rest) pos) (.bool true) := by
  subst h; exact de_or (q := true) ha fun h => by cases h
theorem de_orF (ha : DE X H0 ρ a (.bool p)) (hb : DE X H0 ρ (.BoolOp .Or (b :: rest) pos) (.bool q)) (h : p = false := by rfl) : DE X H0 ρ (.BoolOp .Or (a :: b :: rest) pos) (.bool q) := by
  subst h; exact de_or ha fun _ => hb
theorem de_andF (ha : DE X H0 ρ a (.bool p)) (h : p = false := by rfl) : DE X H0 ρ (.BoolOp .And (a :: b :: rest) pos) (.bool false) := by
  subst h; exact de_and (q := true) ha fun h => by cases h
theorem de_andT (ha : DE X H0 ρ a (.bool p)) (hb : DE X H0 ρ (.BoolOp .And (b :: rest) pos) (.bool q)) (h : p = true := by rfl) : DE X H0 ρ (.BoolOp .And (a :: b :: rest) pos) (.bool q) := by
  subst h; exact de_and ha fun _ => hb
variable {F : Fr0} {b1 b2 sts : List Stmt} {N : DEnd}
/-- the test is true and the block leaves -/
theorem ds_ifT (ht : DT X F.H0 ρ c p) (h1 : DS X F ρ b1 (N.to fun _ => False)) (h : p = true := by rfl) : DS X F ρ (.If c b1 [] pos :: sts) N := by
  subst h; exact ds_ifRet ht (fun _ => h1) fun h => by cases h
/-- the test is false -/
theorem ds_ifF (ht : DT X F.H0 ρ c p) (hr : DS X F ρ sts N) (h : p = false := by rfl) : DS X F ρ (.If c b1 [] pos :: sts) N := by
  subst h; exact ds_ifRet ht (fun h => by cases h) fun _ => hr
end
theorem di_to {X : Cx} {H0 : Bs} {ρ : Env} {tg e : Expr} {ds es : List D} (h : DI X H0 ρ tg e ds) (q : ds = es) : DI X H0 ρ tg e es := q ▸ h
theorem cut1 {α : Type} (xs : List α) : DL.cutD xs (some 1) none = xs.drop 1 := by
  unfold DL.cutD
  rw [show HT.sIx xs.length 0 (some 1) = min 1 xs.length from HT.sIx_nat xs.length 0 1, HT.sIx_none]
  cases xs with
  | nil => rfl
  | cons x r =>
    rw [show min 1 (x :: r).length = 1 by rw [List.length_cons]; omega]
    exact List.take_of_length_le (by rw [List.length_drop]; exact Nat.le_refl _)
theorem zipWith_map {ds es : List D} : List.zipWith (fun a b => PyData.tuple [a, b]) ds es = (ds.zip es).map fun z => .tuple [z.1, z.2] := by
  rw [List.zip_eq_zipWith, List.map_zipWith]
section
variable {α : Type} [DecidableEq α] [PySem.W.DatumOrd α]
abbrev toD {α : Type} [DecidableEq α] [PySem.W.Datum α] (a : α) : D := PySem.W.Datum.toD a
theorem alike_ty (xs : List α) : PySem.W.AllAlike (xs.map toD) := PySem.W.AllAlike.of fun a b => PySem.W.DatumOrd.alike a b
theorem nn_ty (h : PySem.W.Datum.depth α ≤ 50) (xs : List α) : ∀ d ∈ xs.map toD, d ≠ .none ∧ d.depth ≤ 50 := fun d hd => by
  obtain ⟨a, _, rfl⟩ := List.mem_map.mp hd
  exact ⟨PySem.W.DatumOrd.notNone a, Nat.le_trans (PySem.W.Datum.depth_le a) h⟩
theorem pl_ty (xs : List α) : PyData.plainAll (xs.map toD) = true := PySem.W.plainAll_map xs
theorem dp_ty (h : PySem.W.Datum.depth α ≤ 50) (xs : List α) : PyData.depthAll (xs.map toD) ≤ 50 := Nat.le_trans (PySem.W.depthAll_map xs) h
end
section
variable {X : Cx} {H0 : Bs} {ρ : Env} {tg iter elt e : Expr} {ifs : List Expr} {scope : Scope} {own : List (Str × Nat)} {pos p1 p2 : Pos} {α : Type} {xs : List α} {enc : α → D} {ds : List D}
theorem di_id (h : DI X H0 ρ tg e ds) : DI X H0 ρ tg e (ds.map id) := di_to h (List.map_id _).symm
/-- all([g for x in xs]), any(..), sum(..), tuple(..) -/
theorem allC (g : α → Bool) (bt : Bt X.mg) (hc : X.calm = true) (hN : X.N.Nodup) (hi : DI X H0 ρ tg iter (xs.map enc)) (ok : BlkOk X.N X.env.scope scope own) (hz : xs.length ≤ 100000) (hb : ∀ x ∈ xs, LcTurn X H0 ρ tg [] elt scope (own.map (·.2)) (enc x) true (.bool (g x)))
    (hg : Gl X "all" := by rfl) (he : starEach [.ListComp elt [⟨tg, iter, [], 0⟩] scope pos] X.env = (false, eval (.ListComp elt [⟨tg, iter, [], 0⟩] scope pos) X.env) :: starEach [] X.env := by rfl) (hpl : (backTo p2 (starEach [] X.env)).any (·.1) = false := by rfl) (hs : ∀ x, foldedSetIterable iter X.env x = pure x := by intro _; rfl) :
    DE X H0 ρ (.Call (.Name "all" p1) [.ListComp elt [⟨tg, iter, [], 0⟩] scope pos] [] p2) (.bool (xs.all g)) :=
  de_to (allR (bs := xs.map g) bt hc (dr_to (dl_r (dl_map (fun x => .bool (g x)) hc hN hi ok hz hb hs)) (by rw [List.map_map]; rfl)) hg he hpl) (by rw [List.all_map]; rfl)
theorem anyC (g : α → Bool) (bt : Bt X.mg) (hc : X.calm = true) (hN : X.N.Nodup) (hi : DI X H0 ρ tg iter (xs.map enc)) (ok : BlkOk X.N X.env.scope scope own) (hz : xs.length ≤ 100000) (hb : ∀ x ∈ xs, LcTurn X H0 ρ tg [] elt scope (own.map (·.2)) (enc x) true (.bool (g x)))
    (hg : Gl X "any" := by rfl) (he : starEach [.ListComp elt [⟨tg, iter, [], 0⟩] scope pos] X.env = (false, eval (.ListComp elt [⟨tg, iter, [], 0⟩] scope pos) X.env) :: starEach [] X.env := by rfl) (hpl : (backTo p2 (starEach [] X.env)).any (·.1) = false := by rfl) (hs : ∀ x, foldedSetIterable iter X.env x = pure x := by intro _; rfl) :
    DE X H0 ρ (.Call (.Name "any" p1) [.ListComp elt [⟨tg, iter, [], 0⟩] scope pos] [] p2) (.bool (xs.any g)) :=
  de_to (anyR (bs := xs.map g) bt hc (dr_to (dl_r (dl_map (fun x => .bool (g x)) hc hN hi ok hz hb hs)) (by rw [List.map_map]; rfl)) hg he hpl) (by rw [List.any_map]; rfl)
theorem sumC (p : α → Bool) (g : α → Int) (bt : Bt X.mg) (hc : X.calm = true) (hN : X.N.Nodup) (hi : DI X H0 ρ tg iter (xs.map enc)) (ok : BlkOk X.N X.env.scope scope own) (hz : xs.length ≤ 100000) (hb : ∀ x ∈ xs, LcTurn X H0 ρ tg ifs elt scope (own.map (·.2)) (enc x) (p x) (.int (g x)))
    (hg : Gl X "sum" := by rfl) (he : starEach [.ListComp elt [⟨tg, iter, ifs, 0⟩] scope pos] X.env = (false, eval (.ListComp elt [⟨tg, iter, ifs, 0⟩] scope pos) X.env) :: starEach [] X.env := by rfl) (hpl : (backTo p2 (starEach [] X.env)).any (·.1) = false := by rfl) (hs : ∀ x, foldedSetIterable iter X.env x = pure x := by intro _; rfl) :
    DE X H0 ρ (.Call (.Name "sum" p1) [.ListComp elt [⟨tg, iter, ifs, 0⟩] scope pos] [] p2) (.int ((xs.filter p).map g).sum) :=
  sumR bt hc (dr_to (dl_r (dl_lc p (fun x => .int (g x)) hc hN hi ok hz hb hs)) (by rw [List.map_map]; rfl)) hg he hpl
theorem tupC (p : α → Bool) (g : α → D) (bt : Bt X.mg) (hc : X.calm = true) (hN : X.N.Nodup) (hi : DI X H0 ρ tg iter (xs.map enc)) (ok : BlkOk X.N X.env.scope scope own) (hz : xs.length ≤ 100000) (hb : ∀ x ∈ xs, LcTurn X H0 ρ tg ifs elt scope (own.map (·.2)) (enc x) (p x) (g x))
    (hg : Gl X "tuple" := by rfl) (he : starEach [.ListComp elt [⟨tg, iter, ifs, 0⟩] scope pos] X.env = (false, eval (.ListComp elt [⟨tg, iter, ifs, 0⟩] scope pos) X.env) :: starEach [] X.env := by rfl) (hpl : (backTo p2 (starEach [] X.env)).any (·.1) = false := by rfl) (hs : ∀ x, foldedSetIterable iter X.env x = pure x := by intro _; rfl) :
    DE X H0 ρ (.Call (.Name "tuple" p1) [.ListComp elt [⟨tg, iter, ifs, 0⟩] scope pos] [] p2) (.tuple ((xs.filter p).map g)) :=
  tupleR bt (dl_r (dl_lc p g hc hN hi ok hz hb hs)) hg he hpl
end
section
variable {X : Cx} {H0 : Bs} {ρ : Env} {a e : Expr} {xs : List D} {pos p2 : Pos} {k : Nat}
theorem eqv_nil (xs : List D) : PyData.eqv (.list xs) (.list []) = xs.isEmpty := by cases xs <;> simp [PyData.eqv, PyData.eqvAll]
theorem eqv_nilT (xs : List D) : PyData.eqv (.tuple xs) (.tuple []) = xs.isEmpty := by cases xs <;> simp [PyData.eqv, PyData.eqvAll]
/-- xs != [], xs == [] -/
theorem neNil (hr : Room k X.A) (h : PyData.plainAll xs = true) (ha : DR X H0 ρ a xs) (hm : behindInMarks .NotEq (.List [] p2) = false := by first | exact nomark _ | rfl) : DT X H0 ρ (.Compare a [.NotEq] [.List [] p2] pos) (!xs.isEmpty) :=
  dt_to (dt_cmpL (op_neP hr.units) (od_neL h rfl (.inr (Nat.le_of_ble_eq_true rfl))) ha (dl_e (dl_lst da_nil)) hm) (by rw [eqv_nil])
theorem eqNil (hr : Room k X.A) (h : PyData.plainAll xs = true) (ha : DR X H0 ρ a xs) (hm : behindInMarks .Eq (.List [] p2) = false := by first | exact nomark _ | rfl) : DE X H0 ρ (.Compare a [.Eq] [.List [] p2] pos) (.bool xs.isEmpty) :=
  de_to (de_cmpL (op_eqP hr.units) (od_eqL h rfl (.inr (Nat.le_of_ble_eq_true rfl))) ha (dl_e (dl_lst da_nil)) hm) (by rw [eqv_nil])
theorem atI_nat {α : Type} {xs : List α} {i : Nat} (h : i < xs.length) : atI xs (i : Int) = some xs[i] := by
  unfold atI ixN
  rw [if_pos (by omega), if_pos (by omega)]
  simp [h]
theorem atI_zero {x : D} {r : List D} : atI (x :: r) 0 = some x := atI_nat (xs := x :: r) (i := 0) (by simp)
end
/-- a method of the text: of the class C, by its statement -/
def MetAt (K : PySem.W.Frag) (C : Addr) (m qual : Str) (st : Stmt) (ps : List Str) : Prop := ∃ f fd, Meth K C m f ∧ Fun K m qual st f fd ∧ Binds K fd ps []
/-- C(..) by the text's __init__ -/
def MakeAt (K : PySem.W.Frag) (C : Addr) (qual : Str) (st : Stmt) (ps : List Str) : Prop := ∃ f fd, Mk K C f ∧ Fun K "__init__" qual st f fd ∧ Binds K fd ps []
end DL
/-! the text by places, the names by slots -/
namespace LP
open PySem PySem.Spec PyProof.Rows L2 DL
def topS (i : Nat) : Stmt := PySem.Challenge.pw_lowpools_k20_whole_ways_in_trees.main.body.getD i (.Pass ⟨0, 0, 0, 0⟩)
def classBody : Stmt → List Stmt | .ClassDef _ _ _ b _ _ _ _ _ _ _ => b | _ => []
abbrev s_is_whole : Stmt := topS 17
abbrev p_is_whole : List Str := ["thing", "low", "high"]
abbrev n_is_whole : List Str := ["thing", "low", "high"]
theorem sc_is_whole : FnScope n_is_whole p_is_whole (defScope s_is_whole) := ⟨rfl, rfl, rfl, by decide +kernel, rfl, by decide +kernel, by decide +kernel⟩
abbrev s_is_word : Stmt := topS 18
abbrev p_is_word : List Str := ["thing"]
abbrev n_is_word : List Str := ["thing", "sign"]
theorem sc_is_word : FnScope n_is_word p_is_word (defScope s_is_word) := ⟨rfl, rfl, rfl, by decide +kernel, rfl, by decide +kernel, by decide +kernel⟩
abbrev s_rise : Stmt := topS 19
abbrev p_rise : List Str := ["rows"]
abbrev n_rise : List Str := ["rows", "one", "other"]
theorem sc_rise : FnScope n_rise p_rise (defScope s_rise) := ⟨rfl, rfl, rfl, by decide +kernel, rfl, by decide +kernel, by decide +kernel⟩
abbrev s_is_pool : Stmt := topS 20
abbrev p_is_pool : List Str := ["pools", "thing"]
abbrev n_is_pool : List Str := ["pools", "thing"]
theorem sc_is_pool : FnScope n_is_pool p_is_pool (defScope s_is_pool) := ⟨rfl, rfl, rfl, by decide +kernel, rfl, by decide +kernel, by decide +kernel⟩
abbrev s_is_ridge : Stmt := topS 21
abbrev p_is_ridge : List Str := ["pools", "thing"]
abbrev n_is_ridge : List Str := ["pools", "thing"]
theorem sc_is_ridge : FnScope n_is_ridge p_is_ridge (defScope s_is_ridge) := ⟨rfl, rfl, rfl, by decide +kernel, rfl, by decide +kernel, by decide +kernel⟩
abbrev s_is_shore : Stmt := topS 22
abbrev p_is_shore : List Str := ["thing"]
abbrev n_is_shore : List Str := ["thing", "pools", "ridges", "one"]
theorem sc_is_shore : FnScope n_is_shore p_is_shore (defScope s_is_shore) := ⟨rfl, rfl, rfl, by decide +kernel, rfl, by decide +kernel, by decide +kernel⟩
abbrev s_need_shore : Stmt := topS 23
abbrev p_need_shore : List Str := ["thing"]
abbrev n_need_shore : List Str := ["thing"]
theorem sc_need_shore : FnScope n_need_shore p_need_shore (defScope s_need_shore) := ⟨rfl, rfl, rfl, by decide +kernel, rfl, by decide +kernel, by decide +kernel⟩
abbrev s_all_lots : Stmt := topS 24
abbrev p_all_lots : List Str := ["shore", "height"]
abbrev n_all_lots : List Str := ["shore", "height", "found", "left", "lot", "work", "here", "one", "other", "high", "next_one", "pool"]
theorem sc_all_lots : FnScope n_all_lots p_all_lots (defScope s_all_lots) := ⟨rfl, rfl, rfl, by decide +kernel, rfl, by decide +kernel, by decide +kernel⟩
abbrev s_are_one : Stmt := topS 25
abbrev p_are_one : List Str := ["shore", "height", "one", "other"]
abbrev n_are_one : List Str := ["shore", "height", "one", "other", "lot"]
theorem sc_are_one : FnScope n_are_one p_are_one (defScope s_are_one) := ⟨rfl, rfl, rfl, by decide +kernel, rfl, by decide +kernel, by decide +kernel⟩
abbrev s_least_from : Stmt := topS 26
abbrev p_least_from : List Str := ["shore", "one", "other"]
abbrev n_least_from : List Str := ["shore", "one", "other", "some", "height"]
theorem sc_least_from : FnScope n_least_from p_least_from (defScope s_least_from) := ⟨rfl, rfl, rfl, by decide +kernel, rfl, by decide +kernel, by decide +kernel⟩
abbrev s_need_pool : Stmt := topS 27
abbrev p_need_pool : List Str := ["shore", "pool"]
abbrev n_need_pool : List Str := ["shore", "pool"]
theorem sc_need_pool : FnScope n_need_pool p_need_pool (defScope s_need_pool) := ⟨rfl, rfl, rfl, by decide +kernel, rfl, by decide +kernel, by decide +kernel⟩
abbrev s_one_from : Stmt := topS 28
abbrev p_one_from : List Str := ["shore", "one", "other"]
abbrev n_one_from : List Str := ["shore", "one", "other"]
theorem sc_one_from : FnScope n_one_from p_one_from (defScope s_one_from) := ⟨rfl, rfl, rfl, by decide +kernel, rfl, by decide +kernel, by decide +kernel⟩
abbrev s_chosen : Stmt := topS 30
abbrev p_chosen : List Str := ["some", "size"]
abbrev n_chosen : List Str := ["some", "size", "found", "at", "one", "rest"]
theorem sc_chosen : FnScope n_chosen p_chosen (defScope s_chosen) := ⟨rfl, rfl, rfl, by decide +kernel, rfl, by decide +kernel, by decide +kernel⟩
abbrev s_with_ridges : Stmt := topS 32
abbrev p_with_ridges : List Str := ["shore", "numbers"]
abbrev n_with_ridges : List Str := ["shore", "numbers", "number"]
theorem sc_with_ridges : FnScope n_with_ridges p_with_ridges (defScope s_with_ridges) := ⟨rfl, rfl, rfl, by decide +kernel, rfl, by decide +kernel, by decide +kernel⟩
abbrev s_do_tell : Stmt := topS 33
abbrev p_do_tell : List Str := ["shore", "numbers"]
abbrev n_do_tell : List Str := ["shore", "numbers", "other", "height"]
theorem sc_do_tell : FnScope n_do_tell p_do_tell (defScope s_do_tell) := ⟨rfl, rfl, rfl, by decide +kernel, rfl, by decide +kernel, by decide +kernel⟩
abbrev s_tree_of : Stmt := topS 34
abbrev p_tree_of : List Str := ["shore"]
abbrev n_tree_of : List Str := ["shore", "found", "lots_of", "high", "number", "one", "other", "pool", "ridge"]
theorem sc_tree_of : FnScope n_tree_of p_tree_of (defScope s_tree_of) := ⟨rfl, rfl, rfl, by decide +kernel, rfl, by decide +kernel, by decide +kernel⟩
abbrev s_least_tree : Stmt := topS 35
abbrev p_least_tree : List Str := ["shore"]
abbrev n_least_tree : List Str := ["shore", "size", "numbers"]
theorem sc_least_tree : FnScope n_least_tree p_least_tree (defScope s_least_tree) := ⟨rfl, rfl, rfl, by decide +kernel, rfl, by decide +kernel, by decide +kernel⟩
abbrev s_way_from : Stmt := topS 36
abbrev p_way_from : List Str := ["ridges", "one", "other", "seen"]
abbrev n_way_from : List Str := ["ridges", "one", "other", "seen", "first", "second", "high", "there", "rest"]
theorem sc_way_from : FnScope n_way_from p_way_from (defScope s_way_from) := ⟨rfl, rfl, rfl, by decide +kernel, rfl, by decide +kernel, by decide +kernel⟩
abbrev s_way_in : Stmt := topS 37
abbrev p_way_in : List Str := ["shore", "one", "other"]
abbrev n_way_in : List Str := ["shore", "one", "other"]
theorem sc_way_in : FnScope n_way_in p_way_in (defScope s_way_in) := ⟨rfl, rfl, rfl, by decide +kernel, rfl, by decide +kernel, by decide +kernel⟩
abbrev s__law_cell : Stmt := topS 39
abbrev p__law_cell : List Str := ["_law_script", "_law_k"]
abbrev n__law_cell : List Str := ["_law_script", "_law_k"]
theorem sc__law_cell : FnScope n__law_cell p__law_cell (defScope s__law_cell) := ⟨rfl, rfl, rfl, by decide +kernel, rfl, by decide +kernel, by decide +kernel⟩
abbrev s__law_drawn : Stmt := topS 40
abbrev p__law_drawn : List Str := ["_law_cell_here", "_law_k"]
abbrev n__law_drawn : List Str := ["_law_cell_here", "_law_k", "_law_more"]
theorem sc__law_drawn : FnScope n__law_drawn p__law_drawn (defScope s__law_drawn) := ⟨rfl, rfl, rfl, by decide +kernel, rfl, by decide +kernel, by decide +kernel⟩
abbrev s__law_roll : Stmt := topS 41
abbrev p__law_roll : List Str := ["_law_dice", "_law_many"]
abbrev n__law_roll : List Str := ["_law_dice", "_law_many", "_law_told_here"]
theorem sc__law_roll : FnScope n__law_roll p__law_roll (defScope s__law_roll) := ⟨rfl, rfl, rfl, by decide +kernel, rfl, by decide +kernel, by decide +kernel⟩
abbrev s__law_rounds : Stmt := topS 42
abbrev p__law_rounds : List Str := ["_law_script", "_law_high"]
abbrev n__law_rounds : List Str := ["_law_script", "_law_high", "_law_k"]
theorem sc__law_rounds : FnScope n__law_rounds p__law_rounds (defScope s__law_rounds) := ⟨rfl, rfl, rfl, by decide +kernel, rfl, by decide +kernel, by decide +kernel⟩
abbrev s__law_term : Stmt := topS 43
abbrev p__law_term : List Str := ["_law_e"]
abbrev n__law_term : List Str := ["_law_e", "_law_flags", "_law_names", "_law_flag"]
theorem sc__law_term : FnScope n__law_term p__law_term (defScope s__law_term) := ⟨rfl, rfl, rfl, by decide +kernel, rfl, by decide +kernel, by decide +kernel⟩
abbrev s__law_told : Stmt := topS 44
abbrev p__law_told : List Str := ["_law_deed"]
abbrev n__law_told : List Str := ["_law_deed", "_law_e"]
theorem sc__law_told : FnScope n__law_told p__law_told (defScope s__law_told) := ⟨rfl, rfl, rfl, by decide +kernel, rfl, by decide +kernel, by decide +kernel⟩
abbrev s__law_any_ridges : Stmt := topS 45
abbrev p__law_any_ridges : List Str := ["_law_dice", "_law_pools", "_law_high"]
abbrev n__law_any_ridges : List Str := ["_law_dice", "_law_pools", "_law_high", "_law_some", "_law_found", "_law_at", "_law_one", "_law_turn", "_law_pair", "_law_other"]
theorem sc__law_any_ridges : FnScope n__law_any_ridges p__law_any_ridges (defScope s__law_any_ridges) := ⟨rfl, rfl, rfl, by decide +kernel, rfl, by decide +kernel, by decide +kernel⟩
abbrev s__law_any_shore : Stmt := topS 46
abbrev p__law_any_shore : List Str := ["_law_dice", "_law_size", "_law_high"]
abbrev n__law_any_shore : List Str := ["_law_dice", "_law_size", "_law_high", "_law_pools"]
theorem sc__law_any_shore : FnScope n__law_any_shore p__law_any_shore (defScope s__law_any_shore) := ⟨rfl, rfl, rfl, by decide +kernel, rfl, by decide +kernel, by decide +kernel⟩
abbrev s_law : Stmt := topS 47
abbrev p_law : List Str := ["_law_script"]
abbrev n_law : List Str := ["_law_script", "_law_dice", "_law_shore", "_law_tree", "_law_heights", "_law_way", "_law_due", "_law_steps", "_law_bad", "_law_made", "_law_number", "_law_one", "_law_other", "_law_high", "_law_here", "_law_there", "_law_step"]
theorem sc_law : FnScope n_law p_law (defScope s_law) := ⟨rfl, rfl, rfl, by decide +kernel, rfl, by decide +kernel, by decide +kernel⟩
/-- what is known of the top -/
structure Tx (K : PySem.W.Frag) (mg : Str → Option Value) : Prop where
  bt : Bt mg
  c_SMALL : ∃ t, mg "SMALL" = some (.str "abcdefghijklmnopqrstuvwxyz" t)
  c_HIGHEST : ∃ t, mg "HIGHEST" = some (.int 9 t)
  e_PoolError : ExcK K mg "PoolError"
  e_BadShore : ExcK K mg "BadShore"
  e_BadPool : ExcK K mg "BadPool"
  e_BadHeight : ExcK K mg "BadHeight"
  e_BadCounts : ExcK K mg "BadCounts"
  e_BadLot : ExcK K mg "BadLot"
  e_BadKinds : ExcK K mg "BadKinds"
  e_BadBounds : ExcK K mg "BadBounds"
  e_BadDays : ExcK K mg "BadDays"
  e_BadSeen : ExcK K mg "BadSeen"
  e_Nothing : ExcK K mg "Nothing"
  e_Full : ExcK K mg "Full"
  e_BadText : ExcK K mg "BadText"
  d_is_whole : DefAt K mg "is_whole" s_is_whole p_is_whole
  d_is_word : DefAt K mg "is_word" s_is_word p_is_word
  d_rise : DefAt K mg "rise" s_rise p_rise
  d_is_pool : DefAt K mg "is_pool" s_is_pool p_is_pool
  d_is_ridge : DefAt K mg "is_ridge" s_is_ridge p_is_ridge
  d_is_shore : DefAt K mg "is_shore" s_is_shore p_is_shore
  d_need_shore : DefAt K mg "need_shore" s_need_shore p_need_shore
  d_all_lots : DefAt K mg "all_lots" s_all_lots p_all_lots
  d_are_one : DefAt K mg "are_one" s_are_one p_are_one
  d_least_from : DefAt K mg "least_from" s_least_from p_least_from
  d_need_pool : DefAt K mg "need_pool" s_need_pool p_need_pool
  d_one_from : DefAt K mg "one_from" s_one_from p_one_from
  d_chosen : DefAt K mg "chosen" s_chosen p_chosen
  d_with_ridges : DefAt K mg "with_ridges" s_with_ridges p_with_ridges
  d_do_tell : DefAt K mg "do_tell" s_do_tell p_do_tell
  d_tree_of : DefAt K mg "tree_of" s_tree_of p_tree_of
  d_least_tree : DefAt K mg "least_tree" s_least_tree p_least_tree
  d_way_from : DefAt K mg "way_from" s_way_from p_way_from
  d_way_in : DefAt K mg "way_in" s_way_in p_way_in
  d__law_cell : DefAt K mg "_law_cell" s__law_cell p__law_cell
  d__law_drawn : DefAt K mg "_law_drawn" s__law_drawn p__law_drawn
  d__law_roll : DefAt K mg "_law_roll" s__law_roll p__law_roll
  d__law_rounds : DefAt K mg "_law_rounds" s__law_rounds p__law_rounds
  d__law_term : DefAt K mg "_law_term" s__law_term p__law_term
  d__law_told : DefAt K mg "_law_told" s__law_told p__law_told
  d__law_any_ridges : DefAt K mg "_law_any_ridges" s__law_any_ridges p__law_any_ridges
  d__law_any_shore : DefAt K mg "_law_any_shore" s__law_any_shore p__law_any_shore
  d_law : DefAt K mg "law" s_law p_law
end LP
/-! DL8: enumerate of a tuple. -/
namespace LQ
open PySem PySem.Spec PyProof.Rows L2
theorem meets_enumT (l : Addr) (items : Array Value) (n : Nat) (dct : Option Addr) (sl : Array (Option Value)) :
    Meets (Builtin.«enumerate.__new__» ⟨[.type "enumerate", .ref l], []⟩) (fun _ R s => s.heap.get? l = some { cls := .type "tuple", dict := dct, data := .seq items n, slots := sl } ∧
      R (.ok (.ret (.ref (s.heap.push { cls := .type "tuple_iterator", data := .fields #[.ref l, .int 0 0] }).objs.size)))
        { s with heap := (s.heap.push { cls := .type "tuple_iterator", data := .fields #[.ref l, .int 0 0] }).push { cls := .type "enumerate", data := .fields #[.none, .bool false, .ref s.heap.objs.size, rawInt 0, .none, .none] } }) :=
  .of_wp fun prog w A R s h => by
    obtain ⟨hp, g, d, tk, os⟩ := s; obtain ⟨hl, h⟩ := h
    have hsub := sub_enumerate
    have hL : Heap.IsTuple (Shared.heap ⟨hp, g, d, tk, os⟩) l items := ⟨_, hl, rfl, n, rfl⟩
    wp_walk using AutoSeq1.wpAny_loadPart' hl
    refine wpAny_stack_any fun st => wpAny_pure ?_
    split
    · rename_i c _ _ _ _ _
      cases (c == Value.type "enumerate")
      · wp_walk using AutoSeq1.wpAny_loadPart' hl, wpAny_pyIter_tuple hL
        exact ⟨_, rfl, h⟩
      · wp_walk using AutoSeq1.wpAny_loadPart' hl, wpAny_pyIter_tuple hL
        exact ⟨_, rfl, h⟩
    · wp_walk using AutoSeq1.wpAny_loadPart' hl, wpAny_pyIter_tuple hL
      exact ⟨_, rfl, h⟩
theorem call_enumT {prog : Program} {w : World} {A : Around} {E : Value → Shared → Prop} {s : Shared} {l : Addr} {items : Array Value} {Q : Value → Shared → Prop} (hL : s.heap.IsTuple l items)
    (h : ∀ h', IsEnum h' (s.heap.objs.size + 1) s.heap.objs.size 0 .none → h'.IsTupleIter s.heap.objs.size l 0 → h'.objs.size = s.heap.objs.size + 2 →
      (∀ b o, s.heap.get? b = some o → h'.get? b = some o) → Q (.ref (s.heap.objs.size + 1)) { s with heap := h' }) :
    wpAny (model prog w) A (call (.type "enumerate") [.ref l]) Q E s := by
  obtain ⟨⟨c, dct, dt, sl⟩, hl, hc, n, hd⟩ := hL
  replace hc : c = .type "tuple" := hc
  replace hd : dt = .seq items n := hd
  subst hc hd
  refine callType_new F.called_enumerate (by decide) (F.typeCall_enumerate_1 _) (F.newCall_enumerate_1 _) (fun obj => F.args_object_init_2 obj _) F.entry_enumerate_new
    (meets_enumT l items n dct sl) ⟨hl, ?_⟩
  have hz : (s.heap.push { cls := .type "tuple_iterator", data := .fields #[.ref l, .int 0 0] }).objs.size = s.heap.objs.size + 1 := Heap.size_push ..
  show _ ∧ _
  rw [hz]
  have he : IsEnum ((s.heap.push { cls := .type "tuple_iterator", data := .fields #[.ref l, .int 0 0] }).push
      { cls := .type "enumerate", data := .fields #[.none, .bool false, .ref s.heap.objs.size, rawInt 0, .none, .none] }) (s.heap.objs.size + 1) s.heap.objs.size 0 .none := by
    have := Heap.get?_push_size (s.heap.push { cls := .type "tuple_iterator", data := .fields #[.ref l, .int 0 0] })
      (o := { cls := .type "enumerate", data := .fields #[.none, .bool false, .ref s.heap.objs.size, rawInt 0, .none, .none] }) rfl
    rw [hz] at this; exact this
  refine ⟨⟨_, he, rfl⟩, h _ he ⟨_, Heap.get?_push_of_some _ (Heap.get?_push_size _ rfl), rfl, rfl⟩ (by rw [Heap.size_push, hz]) fun b o x => Heap.get?_push_of_some _ (Heap.get?_push_of_some _ x)⟩
/-- the tuple at a, each item in a new pair -/
def IteT (K : PySem.W.Frag) (a : Addr) : It :=
  ⟨fun i H => ∃ (xs : List V) (x : V), SqT K H a xs ∧ xs[i]? = some x, fun i H v H' => ∃ T x, v = .ref T ∧ H T = none ∧ H' = upd H T (.tup [.int (i : Nat), x]) ∧ ∀ xs, SqT K H a xs → xs[i]? = some x, fun i H => ∃ xs : List V, SqT K H a xs ∧ xs.length ≤ i⟩
theorem turn_enumT {P : Program} {w : World} {K : PySem.W.Frag} {elts : List Expr} {kk : Nat} {tpos : Pos} (a e it : Addr) (hne : a ≠ it) (hea : e ≠ a) :
    Turn P w K (.Tuple elts kk tpos) (IteT K a) [e, it] e (fun i h => (∃ old, IsEnum h e it ((i : Nat) : Int) old) ∧ h.IsTupleIter it a i ∧ e ≠ it) where
  mem := by simp
  obj := fun i h st b hb => by
    obtain ⟨⟨old, he⟩, ⟨o, ho, hc, hd⟩, _⟩ := st
    have e' : b = e ∨ b = it := by simpa using hb
    rcases e' with z | z
    · rw [z]; exact ⟨_, he, fun v q => nomatch q⟩
    · rw [z]; exact ⟨o, ho, fun v q => by rw [hd] at q; cases q⟩
  keep := fun i h h' st k => let ⟨⟨old, he⟩, hi, hne⟩ := st; ⟨⟨old, k e (by simp) _ he⟩, hi.at fun o q => k it (by simp) o q, hne⟩
  item := by
    intro X hP hw hK hc i pins s σ H E I hf st hg
    subst hP hw hK
    obtain ⟨⟨old, he⟩, hit, hne'⟩ := st
    obtain ⟨xs, x, hq, hx⟩ := hg
    obtain ⟨its, rv, p, hz⟩ := I.tuple hq
    obtain ⟨u, hu, ru⟩ := rv.get hx
    have hel : e < s.heap.objs.size := Heap.lt_size he
    have hil : it < s.heap.objs.size := by obtain ⟨_, q, _⟩ := hit; exact Heap.lt_size q
    have hil2 : i < its.toArray.size := by
      have := (List.getElem?_eq_some_iff.mp hu).1
      simpa using this
    refine wpAny_pyNext_enum_itemD (Draws.tuple (A := X.A.in1) (show X.A.in1.handled = none from I.ok.hd hc) it a hne its.toArray) he ⟨hit, p⟩ hil2 hne' (by simp [hne', hea]) fun y h' tk hy ho st' hT hsz hk => ?_
    obtain rfl : y = u := by
      have e1 : its.toArray[i]? = some u := by simpa using hu
      rw [show its.toArray[i]? = some y from hy] at e1
      exact Option.some.inj e1
    refine ⟨_, rfl, wpAny_letOwnedTupleGo_enum (s := { s with heap := h', toks := tk + 1 }) ho fun h'' he' sb => ?_⟩
    have hT2 : h''.get? s.heap.objs.size = some { cls := .type "tuple", data := .seq #[.int i tk, y] } := (sb.2 _ (Nat.ne_of_gt hel)).trans hT
    have new : ObjOk X.prog X.w (upd H s.heap.objs.size (.tup [.int (i : Nat), x])) h'' s.heap.objs.size (.tup [.int (i : Nat), x]) :=
      ⟨by show 2 ≤ sizeLine; decide, [.int i tk, y], .cons ⟨_, rfl⟩ (.cons ru .nil), ⟨_, hT2, rfl, _, rfl⟩⟩
    have I1 : Inv X pins σ (upd H s.heap.objs.size (.tup [.int (i : Nat), x])) { s with heap := h'', toks := tk + 1 } :=
      I.turnedNew (ch := [e, it]) (fun b ob hb q => (sb.2 b (fun z => hb (by simp [z]))).trans (hk b ob (fun z => hb (by simp [z])) (fun z => hb (by simp [z])) q)) hf (Nat.le_refl _) new
    refine ⟨.ref s.heap.objs.size, _, I1, rfl, ⟨_, x, rfl, I.hok.fresh (Nat.le_refl _), rfl, fun ys hy => by rw [I.tuple_inj hy hq]; exact hx⟩, ⟨⟨y, ?_⟩, st'.1.at fun o q => (sb.2 it (Ne.symm hne')).trans q, hne'⟩, fun b hb => ?_⟩
    · have e1 : ((i + 1 : Nat) : Int) = (i : Int) + 1 := by omega
      rw [e1]; exact he'
    · have hb' : b < s.heap.objs.size := by
        have e' : b = e ∨ b = it := by simpa using hb
        rcases e' with z | z
        · rw [z]; exact hel
        · rw [z]; exact hil
      rw [upd_ne (Nat.ne_of_lt hb')]
      exact (hf b hb).1
  done := by
    intro X hP hw hK hc i pins s σ H E I hf st hg
    subst hP hw hK
    obtain ⟨⟨old, he⟩, hit, hne⟩ := st
    obtain ⟨xs, hq, hx⟩ := hg
    obtain ⟨its, rv, p, hz⟩ := I.tuple hq
    obtain ⟨f0, f1, f2, f3, f4, f5⟩ := hf it (by simp)
    have hl := rv.length
    unfold pyNext
    refine wpAny_bind (wpAny_attempt (wpAny_callSpecial?_slot (name := Str.ofString "__next__") ⟨_, he, rfl⟩ F.slot_enumerate_next
      (wpAny_call_entry F.slot_enumerate_next ⟨_, he, rfl⟩ F.entry_enumerate_next ?_ (F.args_enumerate_next_1 _))))
    show wpAny _ _ (field (.ref e) 2 >>= _) _ _ _
    refine wpAny_bind (wpAny_field he rfl (x := .ref it) rfl ?_)
    refine wpAny_bind (wpAny_nextOf_tuple_end (I.ok.hd hc) hit p (by simp; omega) fun h' x he' hx' => ?_)
    obtain ⟨o, ho, hcc⟩ := hx'
    refine wpAny_bind (wpAny_isInstance (T := "StopIteration") (b := true) ⟨o, ho, hcc⟩ isSubtype_stop ?_)
    exact wpAny_pure ⟨rfl, I.turned (t' := s.toks) (fun b o hb q => he' b o hb q) f0 f1 f3 f4 f5⟩
  self := fun A i s Q E st h => let ⟨⟨_, he⟩, _⟩ := st; wpAny_pyIter_enum he h
def iEnumT (K : PySem.W.Frag) (ta : TA) : TI := fun σ H R => ta σ H fun vs H1 => ∃ a xs, vs = [.ref a] ∧ SqT K H1 a xs ∧ R (IteT K a) H1
theorem pi_enumT {X : Cx} {e : Expr} {ta : TA} {p pos tpos : Pos} {elts : List Expr} {kk : Nat} (hg : Gl X "enumerate") (hm : X.mg "enumerate" = none) (ha : PA X [e] ta) (hs : starEach [e] X.env = [(false, eval e X.env)] := by rfl) :
    PI X (.Tuple elts kk tpos) (.Call (.Name "enumerate" p) [e] [] pos) (iEnumT X.K ta) := by
  refine ⟨fun pins s σ H R I h => ?_⟩
  refine Call_ (ld_blt I hg hm boot_enumerate (PyProof.Rows.callWith_type1 (thn (ha.run pos pins s σ H _ I h) fun us s1 ⟨vs, H1, I1, r1, q1⟩ => ?_) hs rfl))
  obtain ⟨a, xs, ex, hq, q⟩ := q1
  subst ex
  cases r1 with
  | cons r rr =>
    cases rr
    cases r
    obtain ⟨its, rv, p', hz⟩ := I1.tuple hq
    have hal : a < s1.heap.objs.size := by obtain ⟨o, ho, _⟩ := id p'; exact Heap.lt_size ho
    refine call_enumT (show s1.heap.IsTuple a its.toArray from p') fun h' he hit hsz hk => wpAny_pyIter_enum he ?_
    have I2 : Inv X pins σ H1 { s1 with heap := h' } := I1.kept (t' := s1.toks) hk
    refine ⟨s1.heap.objs.size + 1, [s1.heap.objs.size + 1, s1.heap.objs.size], _, _, H1, rfl, I2, turn_enumT a (s1.heap.objs.size + 1) s1.heap.objs.size (Nat.ne_of_lt hal) (Nat.ne_of_gt (Nat.lt_succ_of_lt hal)), ⟨⟨.none, he⟩, hit, Nat.succ_ne_self _⟩, fun b hb => ?_, q⟩
    have e' : b = s1.heap.objs.size + 1 ∨ b = s1.heap.objs.size := by simpa using hb
    have hle : s1.heap.objs.size ≤ b := by
      rcases e' with z | z
      · rw [z]; exact Nat.le_add_right _ _
      · rw [z]; exact Nat.le_refl _
    exact I1.fpOk hle (I1.hok.fresh hle)
theorem walk_enumT {K : PySem.W.Frag} {a : Addr} {xs : List V} : L2.Walk (IteT K a) xs.length (fun H => SqT K H a xs) (YPair (fun i => some (.int (i : Nat))) (fun i => xs[i]?)) := by
  refine ⟨fun i _ hi q => ⟨xs, xs[i], q, by simp [hi]⟩, fun _ q => ⟨xs, q, Nat.le_refl _⟩, fun i H v H' _ q y => ?_⟩
  obtain ⟨T, x, h1, h2, h3, h4⟩ := y
  exact ⟨T, .int (i : Nat), x, h1, h2, h3, rfl, h4 xs q⟩
end LQ
namespace DL
open PySem PySem.Spec PyProof.Rows L2
section
variable {X : Cx} {H0 : Bs} {ρ : Env} {e : Expr} {ds : List D} {pos p tpos : Pos} {elts : List Expr} {kk : Nat}
theorem di_enumT (h : DA X H0 ρ [e] [.tuple ds]) (hg : Gl X "enumerate") (hm : X.mg "enumerate" = none) (hs : starEach [e] X.env = [(false, eval e X.env)] := by rfl) : DI X H0 ρ (.Tuple elts kk tpos) (.Call (.Name "enumerate" p) [e] [] pos) (ds.zipIdx.map fun z => .tuple [.int (z.2 : Nat), z.1]) :=
  (LQ.pi_enumT hg hm h hs).imp fun σ H R ⟨G, x, sl, q⟩ => ⟨G, x, sl, fun vs G1 H1 y r => by
  obtain ⟨v, t, rfl, r1, r2⟩ := r.inv_cons
  obtain rfl := r2.inv_nil
  obtain ⟨a, xs, rfl, g1, g2⟩ := dp_tup r1
  refine ⟨a, xs, rfl, y.gh.seqT g1, q _ G1 H1 y ?_⟩
  have hl : (ds.zipIdx.map fun z => PyData.tuple [.int (z.2 : Nat), z.1]).length = xs.length := by rw [List.length_map, List.length_zipIdx, g2.length]
  rw [WalkD, hl]
  refine ⟨_, LQ.walk_enumT.mono (fun H' e => e.seqT g1) fun i H x H' hi _ y => y, fun i H' x H'' G' y e1 e2 => ?_⟩
  obtain ⟨T, u, v, rfl, hT, rfl, hu, hv⟩ := y
  obtain ⟨d, hd, rd⟩ := g2.at' hv
  obtain rfl := Option.some.inj hu
  refine ⟨upd G' T (.tup [_, v]), .tuple [.int (i : Nat), d], Ext.new e2 hT, ?_, .tup (.inl (.inl upd_same)) (.cons (.int _) (.cons ((rd.up e1).up (Ex.new (e2.back hT))) .nil))⟩
  rw [List.getElem?_map, List.getElem?_zipIdx, hd]
  simp⟩
theorem enumT (bt : Bt X.mg) (ha : DE X H0 ρ e (.tuple ds)) (hg : Gl X "enumerate" := by rfl) (he : starEach (e :: []) X.env = (false, eval e X.env) :: starEach [] X.env := by rfl) (hs : starEach [e] X.env = [(false, eval e X.env)] := by rfl) :
    DI X H0 ρ (.Tuple elts kk tpos) (.Call (.Name "enumerate" p) [e] [] pos) (ds.zipIdx.map fun z => .tuple [.int (z.2 : Nat), z.1]) := di_enumT (da_cons ha da_nil he) hg (bt.at _) hs
end
section
variable {X : Cx} {H0 : Bs} {ρ : Env} {e : Expr} {pos p1 p2 : Pos} {ns : List Int} {m : Int}
theorem cd_min (h1 : m ∈ ns) (h2 : ∀ y ∈ ns, m ≤ y) : CallDR X (rMin X.K) (ns.map .int) (.int m) := fun p vs G H Q e h rs q => ⟨p, ns, rfl, by rw [← dpAll_ints rs]; exact h, List.length_pos_of_mem h1, fun m' h3 h4 => by
  rw [show m' = m from Int.le_antisymm (h4 m h1) (h2 m' h3)]
  exact q _ G H (Ext.refl e) (.int _)⟩
theorem minR (bt : Bt X.mg) (hc : X.calm = true) (h1 : m ∈ ns) (h2 : ∀ y ∈ ns, m ≤ y) (ha : DR X H0 ρ e (ns.map .int)) (hg : Gl X "min" := by rfl) (he : starEach (e :: []) X.env = (false, eval e X.env) :: starEach [] X.env := by rfl) (hpl : (backTo pos (starEach [] X.env)).any (·.1) = false := by rfl) : DE X H0 ρ (.Call (.Name "min" p1) [e] [] pos) (.int m) :=
  de_callBR (cr_min hc) (cd_min h1 h2) hg (bt.at _) (by decide +kernel) ha (by decide) (by decide) he hpl
theorem cutN {α : Type} (xs : List α) (n : Nat) : DL.cutD xs (some (n : Int)) none = xs.drop n := by
  unfold DL.cutD
  rw [show HT.sIx xs.length 0 (some (n : Int)) = min n xs.length from HT.sIx_nat xs.length 0 n, HT.sIx_none]
  rcases Nat.le_total n xs.length with h | h
  · rw [Nat.min_eq_left h, List.take_of_length_le (by rw [List.length_drop]; exact Nat.le_refl _)]
  · rw [Nat.min_eq_right h, List.drop_eq_nil_of_le (Nat.le_refl _), List.drop_eq_nil_of_le h, List.take_nil]
end
end DL
/-! DL9: a pair of numbers that is changed as it is used (dice): expressions that change it, defs that take it. -/
namespace DL
open PySem PySem.Spec PyProof.Rows L2
/-! ### a heap without one thing -/
def del (H : Hp) (p : Addr) : Hp := fun a => if a = p then none else H a
theorem del_same {H : Hp} {p : Addr} : del H p p = none := if_pos rfl
theorem del_ne {H : Hp} {p a : Addr} (h : a ≠ p) : del H p a = H a := if_neg h
theorem del_ex {H : Hp} {p : Addr} : Ex (del H p) H := fun a o h => by
  by_cases e : a = p
  · subst e; rw [del_same] at h; cases h
  · rw [del_ne e] at h; exact h
abbrev Fam := Int → Int → Env
structure Dice (E : Fam) (i : Nat) (p : Addr) : Prop where
  has : ∀ x k, (E x k)[i]? = some (.own [.int x, .int k] (some p))
  chg : ∀ x k x' k', E x' k' = (E x k).set i (.own [.int x', .int k'] (some p))
section
variable {K : PySem.W.Frag} {F : Fr0} {E : Fam} {i : Nat} {p : Addr} {G1 H1 G2 H2 : Hp} {σ : L2.St} {x k x' k' : Int} {H0 : Bs}
theorem Slots.dice (s : Slots K H0 G1 H1 σ (E x k)) (dc : Dice E i p) : σ[i]? = some (some (.ref p)) ∧ H0.out p = none ∧ G1 p = none ∧ H1 p = some (.lst [.int x, .int k]) := by
  obtain ⟨q, vs, e, h0, hg, hh, r⟩ := s.own i _ _ (dc.has x k)
  obtain rfl := s.pin i _ p q (dc.has x k) e
  obtain ⟨v1, t, rfl, r1, r2⟩ := r.inv_cons
  obtain ⟨v2, t, rfl, r3, r4⟩ := r2.inv_cons
  obtain rfl := r4.inv_nil
  rw [dp_int r1, dp_int r3] at hh
  exact ⟨e, h0, hg, hh⟩
theorem Slots.roll (s : Slots K H0 G1 H1 σ (E x k)) (dc : Dice E i p) (y : Ext G1 (del H1 p) G2 H2) (n : G2 p = none) (h : H2 p = some (.lst [.int x', .int k'])) : Slots K H0 G2 H2 σ (E x' k') := by
  obtain ⟨e, h0, hg, hh⟩ := s.dice dc
  have hi := dc.has x k
  rw [dc.chg x k x' k']
  have w : ∀ {m : Nat} {xs : List D} {p0}, ((E x k).set i (.own [.int x', .int k'] (some p)))[m]? = some (.own xs p0) → ∃ ys, (E x k)[m]? = some (.own ys p0) := fun {m xs p0} h => by
    by_cases q : i = m
    · subst q
      obtain ⟨e, hl⟩ := get_set_eq h
      injection e with _ e
      exact ⟨_, by rw [e]; exact hi⟩
    · exact ⟨_, get_set_ne q h⟩
  refine ⟨by rw [List.length_set, s.len], fun j d' hd => ?_, fun j es p0 hd => ?_, fun j k es fs p0 p1 q hjk h1 h2 h3 h4 => ?_, fun j es p' q h1 h2 => ?_, H0.keep _ _ s.inv fun a o ha hnl => y.h a o (by rw [del_ne fun z => by subst z; rw [hh] at ha; cases ha; exact hnl trivial]; exact ha), fun j v9 h9 => s.raw j v9 (get_set_ne (fun q => by subst q; obtain ⟨e, _⟩ := get_set_eq h9; cases e) h9), ?_⟩
  · by_cases q : i = j
    · subst q
      obtain ⟨e, hl⟩ := get_set_eq hd
      cases e
    · obtain ⟨v, ev, r⟩ := s.dat j d' (get_set_ne q hd)
      exact ⟨v, ev, r.up y.g⟩
  · by_cases q : i = j
    · subst q
      obtain ⟨e', hl⟩ := get_set_eq hd
      cases e'
      exact ⟨p, _, e, h0, n, h, .cons (.int _) (.cons (.int _) .nil)⟩
    · have hd2 := get_set_ne q hd
      obtain ⟨p', vs', e', h0', hg', hh', z⟩ := s.own j es p0 hd2
      have ne : p' ≠ p := fun z => by rw [z] at e'; exact s.apart i j _ es _ p0 p q hi hd2 e e'
      have hdl : del H1 p p' = some (.lst vs') := by rw [del_ne ne]; exact hh'
      exact ⟨p', vs', e', h0', y.keepN hg' hdl, y.h _ _ hdl, z.up y.g⟩
  · obtain ⟨_, h1⟩ := w h1
    obtain ⟨_, h2⟩ := w h2
    exact s.apart j k _ _ _ _ q hjk h1 h2 h3 h4
  · obtain ⟨_, h1⟩ := w h1
    exact s.pin j _ p' q h1 h2
  · refine s.thg.to (fun j t h => ⟨get_set_ne (fun q => by subst q; obtain ⟨e, _⟩ := get_set_eq h; cases e) h, rfl⟩) (fun j es p0 p' h h3 => ?_) fun j t h1 h2 => ⟨fun c hc => ?_⟩
    · obtain ⟨ys, h⟩ := w h
      exact .inl ⟨ys, p0, h, h3⟩
    · obtain ⟨a1, a2, o, a3, a4⟩ := h2.ok c hc
      have ne : c.at_ ≠ p := fun z => s.thg.lst i j _ _ t p hi h1 e ⟨c, hc, z⟩
      have a3' : del H1 p c.at_ = some o := by rw [del_ne ne]; exact a3
      exact ⟨a1, y.keepN a2 a3', o, y.h _ _ a3', c.mono _ _ _ _ y.g a4⟩
theorem Ext.roll (e : Ext F.G0 F.H0.out G1 H1) (h0 : F.H0.out p = none) (y : Ext G1 (del H1 p) G2 H2) : Ext F.G0 F.H0.out G2 H2 := by
  refine ⟨e.g.trans y.g, fun a o h => ?_, y.gh, fun a o h n => ?_, fun a ps h => e.nt a ps (y.nt a ps h)⟩
  · have ne : a ≠ p := fun z => by subst z; rw [h0] at h; cases h
    exact y.h a o (by rw [del_ne ne]; exact e.h a o h)
  · cases q : G1 a with
    | some u => exact e.nw a u q n
    | none =>
      have := y.nw a o h q
      by_cases z : a = p
      · subst z; exact h0
      · rw [del_ne z] at this; exact e.h.back this
end
/-! ### expressions -/
section
variable (K : PySem.W.Frag) (F : Fr0) (E : Fam)
def tX (S : D → Prop) : TE := fun σ H Q => ∃ x k G, Ext F.G0 F.H0.out G H ∧ Slots K F.H0 G H σ (E x k) ∧ ∀ d x' k' v G2 H2, S d → Ext F.G0 F.H0.out G2 H2 → Ex G G2 → Slots K F.H0 G2 H2 σ (E x' k') → Dp K G2 v d → Q v H2
def tXs (S : List D → Prop) : TA := fun σ H Q => ∃ x k G, Ext F.G0 F.H0.out G H ∧ Slots K F.H0 G H σ (E x k) ∧ ∀ ds x' k' vs G2 H2, S ds → Ext F.G0 F.H0.out G2 H2 → Ex G G2 → Slots K F.H0 G2 H2 σ (E x' k') → DpAll K G2 vs ds → Q vs H2
def tXt (S : Bool → Prop) : TT := fun σ H Q => ∃ x k G, Ext F.G0 F.H0.out G H ∧ Slots K F.H0 G H σ (E x k) ∧ ∀ b x' k' G2 H2, S b → Ext F.G0 F.H0.out G2 H2 → Ex G G2 → Slots K F.H0 G2 H2 σ (E x' k') → Q b H2
end
abbrev DX (X : Cx) (F : Fr0) (E : Fam) (e : Expr) (S : D → Prop) : Prop := PE X e (tX X.K F E S)
abbrev DXs (X : Cx) (F : Fr0) (E : Fam) (es : List Expr) (S : List D → Prop) : Prop := PA X es (tXs X.K F E S)
abbrev DXt (X : Cx) (F : Fr0) (E : Fam) (c : Expr) (S : Bool → Prop) : Prop := PT X c (tXt X.K F E S)
abbrev DXw (X : Cx) (F : Fr0) (E : Fam) (c : Expr) (S : Bool → Prop) : Prop := PW X c (tXt X.K F E S)
/-- what a def that takes dice promises -/
def spDice (K : PySem.W.Frag) (mg : Str → Option Value) {α : Type} (enc : α → List D) (pre : α → Prop) (res : α → D → Prop) : Sp := fun vs H Q E => ∃ (a : α) (G : Hp) (p : Addr) (x k : Int) (vr : List V), vs = .ref p :: vr ∧ Ex G H ∧ G p = none ∧ H p = some (.lst [.int x, .int k]) ∧ DpAll K G vr (enc a) ∧ pre a ∧
  ∀ d x' k' v G2 H2, res a d → Ext G (del H p) G2 H2 → G2 p = none → H2 p = some (.lst [.int x', .int k']) → Dp K G2 v d → Q v H2
section
variable {X : Cx} {F : Fr0} {E : Fam} {i : Nat} {p : Addr} {a b c e : Expr} {es : List Expr} {S Sa Sb : D → Prop} {Ss : List D → Prop} {T Ta : Bool → Prop} {d : D} {pos py p2 : Pos} {y x : Str} {α : Type} {enc : α → List D} {pre : α → Prop} {res : α → D → Prop} {ps : List Str} {k : Nat} {rest : List Expr} {q : Bool}
theorem dx_of (h : ∀ x k, DE X F.H0 (E x k) e d) (hS : S d) : DX X F E e S := ⟨fun pins s σ H Q I ⟨x, k, G, ex, sl, q⟩ => (h x k).run pins s σ H Q I ⟨G, ex.gh, sl, fun v G2 H2 y r => q d x k v G2 H2 hS (ex.trans y) y.g (sl.up y) r⟩⟩
theorem dx_imp (h : DX X F E e Sa) (hS : ∀ d, Sa d → S d) : DX X F E e S := h.imp fun σ H Q ⟨x, k, G, ex, sl, q⟩ => ⟨x, k, G, ex, sl, fun d x' k' v G2 H2 s => q d x' k' v G2 H2 (hS d s)⟩
theorem dxs_of {ds : List D} (h : ∀ x k, DA X F.H0 (E x k) es ds) (hS : Ss ds) : DXs X F E es Ss := ⟨fun pos pins s σ H Q I ⟨x, k, G, ex, sl, q⟩ => (h x k).run pos pins s σ H Q I ⟨G, ex.gh, sl, fun v G2 H2 y r => q ds x k v G2 H2 hS (ex.trans y) y.g (sl.up y) r⟩⟩
theorem dxs_nil (h : Ss []) : DXs X F E [] Ss := dxs_of (fun _ _ => da_nil) h
theorem dxs_cons (ha : DX X F E e Sa) (hr : DXs X F E es Ss) (hs : starEach (e :: es) X.env = (false, eval e X.env) :: starEach es X.env := by rfl) : DXs X F E (e :: es) (fun l => ∃ d r, l = d :: r ∧ Sa d ∧ Ss r) :=
  (pa_cons ha hr hs).imp fun σ H Q ⟨x, k, G, ex, sl, q⟩ => ⟨x, k, G, ex, sl, fun d x1 k1 v G1 H1 s1 e1 g1 sl1 r1 => ⟨x1, k1, G1, e1, sl1, fun ds x2 k2 vs G2 H2 s2 e2 g2 sl2 r2 => q _ x2 k2 _ G2 H2 ⟨d, ds, rfl, s1, s2⟩ e2 (g1.trans g2) sl2 (.cons (r1.up g2) r2)⟩⟩
theorem dx_tup {kk : Nat} (h : DXs X F E es Ss) (hl : ∀ l, Ss l → l.length ≤ 100000) (hS : ∀ l, Ss l → S (.tuple l)) : DX X F E (.Tuple es kk pos) S :=
  (pe_tup h).imp fun σ H Q ⟨x, k, G, ex, sl, q⟩ => ⟨x, k, G, ex, sl, fun ds x1 k1 vs G1 H1 s1 e1 g1 sl1 r1 => ⟨by rw [r1.length]; exact Nat.le_trans (hl ds s1) (by decide), fun p hp =>
    q _ x1 k1 _ (upd G1 p (.tup vs)) (upd H1 p (.tup vs)) (hS ds s1) (e1.trans (Ext.new e1.gh hp)) (g1.trans (Ex.new (e1.gh.back hp))) (sl1.up (Ext.new e1.gh hp)) (.tup (.inl (.inl upd_same)) (r1.up (Ex.new (e1.gh.back hp))))⟩⟩
theorem dx_bin {op : Operator} {r : R2} (ho : OpR X (binaryOp op) r) (ha : DX X F E a Sa) (hb : DX X F E b Sb) (hr : ∀ da db, Sa da → Sb db → ∃ dc, S dc ∧ OpD X r da db dc) : DX X F E (.BinOp a op b pos) S :=
  (pe_op ho ha hb).imp fun σ H Q ⟨x, k, G, ex, sl, q⟩ => ⟨x, k, G, ex, sl, fun da x1 k1 v G1 H1 s1 e1 g1 sl1 r1 => ⟨x1, k1, G1, e1, sl1, fun db x2 k2 u G2 H2 s2 e2 g2 sl2 r2 => by
    obtain ⟨dc, sc, od⟩ := hr da db s1 s2
    exact od v u G2 H2 Q e2.gh (r1.up g2) r2 fun w G3 H3 t r3 => q dc x2 k2 w G3 H3 sc (e2.trans t) ((g1.trans g2).trans t.g) (sl2.up t) r3⟩⟩
/-- a call of a def that takes the dice -/
theorem dx_call (Df : DefX X k x ps (spDice X.K X.mg enc pre res)) (w : α) (hr : Room k X.A) (dc : Dice E i p) (ha : ∀ x k, DA X F.H0 (E x k) es (enc w)) (hp : pre w) (hS : ∀ d, res w d → S d) (hg : Gl X x) (hdb : (x == ("__debug__" : Str)) = false := by decide)
    (hN : X.N[i]? = some y := by rfl) (hv : Vis X.env.scope y := by first | exact Or.inl rfl | exact Or.inr (Or.inl rfl) | exact Or.inr (Or.inr rfl)) (hd : (y == ("__debug__" : Str)) = false := by decide) (hcd : (y == ("__classdict__" : Str)) = false := by decide)
    (he : starEach (.Name y py :: es) X.env = (false, eval (.Name y py) X.env) :: starEach es X.env := by rfl) (hpl : (backTo pos (starEach es X.env)).any (·.1) = false := by rfl) : DX X F E (.Call (.Name x p2) (.Name y py :: es) [] pos) S := by
  obtain ⟨f, fd, hm, hk, hb, Fk⟩ := Df
  refine ⟨fun pins s σ H Q I ⟨x0, k0, G, ex, sl, q⟩ => ((pe_call Fk hr hg hm hk hb .nil passLN (pa_cons (pv i hN hv hd hcd) (ha x0 k0) he) hdb he hpl)).run pins s σ H Q I ?_⟩
  obtain ⟨s1, h0, g0, hh⟩ := sl.dice dc
  refine ⟨.ref p, s1, G, ex.gh, sl, fun vs G1 H1 y1 r1 => ?_⟩
  have e1 := ex.trans y1
  have sl1 := sl.up y1
  obtain ⟨_, _, g1, hh1⟩ := sl1.dice dc
  exact ⟨w, G1, p, x0, k0, vs, by rw [List.append_nil], y1.gh, g1, hh1, r1, hp, fun d x' k' v G2 H2 hd t n h r2 => q d x' k' v G2 H2 (hS d hd) (e1.roll h0 t) (y1.g.trans t.g) (sl1.roll dc t n h) r2⟩
/-! tests -/
theorem dxt_cmp {op : CmpOp} {r : R2} (ho : OpR X (compareOp op) r) (ha : DX X F E a Sa) (hb : DX X F E b Sb) (hr : ∀ da db, Sa da → Sb db → ∃ z, T z ∧ OpD X r da db (.bool z)) (hm : behindInMarks op b = false := by first | exact nomark _ | rfl) : DXt X F E (.Compare a [op] [b] pos) T :=
  (pt_cmpR ho ha hb hm).imp fun σ H Q ⟨x, k, G, ex, sl, q⟩ => ⟨x, k, G, ex, sl, fun da x1 k1 v G1 H1 s1 e1 g1 sl1 r1 => ⟨x1, k1, G1, e1, sl1, fun db x2 k2 u G2 H2 s2 e2 g2 sl2 r2 => by
    obtain ⟨z, sc, od⟩ := hr da db s1 s2
    exact od v u G2 H2 _ e2.gh (r1.up g2) r2 fun w G3 H3 t r3 => ⟨z, dp_bool r3, q z x2 k2 G3 H3 sc (e2.trans t) ((g1.trans g2).trans t.g) (sl2.up t)⟩⟩⟩
theorem dxw_and (ha : DXt X F E a Ta) (hb : ∀ x k, DW X F.H0 (E x k) (.BoolOp .And (b :: rest) pos) q) (hS : ∀ z, Ta z → T (z && q)) : DXw X F E (.BoolOp .And (a :: b :: rest) pos) T :=
  (pw_and ha ⟨fun w pins s σ H Q I (h : ∃ x k, tT X.K F.H0 (E x k) q σ H Q) => let ⟨x, k, h⟩ := h; (hb x k).run w pins s σ H Q I h⟩).imp fun σ H Q ⟨x, k, G, ex, sl, q9⟩ => ⟨x, k, G, ex, sl, fun z x1 k1 G1 H1 s1 e1 g1 sl1 => by
    cases z with
    | false =>
      show Q false H1
      exact q9 _ x1 k1 G1 H1 (hS false s1) e1 g1 sl1
    | true =>
      show ∃ x k, _
      exact ⟨x1, k1, G1, e1.gh, sl1, fun G2 H2 z => q9 q x1 k1 G2 H2 (hS true s1) (e1.trans z) (g1.trans z.g) (sl1.up z)⟩⟩
theorem dxt_w (h : DXw X F E a T) : DXt X F E a T := h.pt
end
/-! ### statements -/
abbrev DSX (X : Cx) (F : Fr0) (E : Fam) (sts : List Stmt) (N : DEnd) : Prop := ∀ x k, DS X F (E x k) sts N
section
variable {X : Cx} {F : Fr0} {E : Fam} {i j : Nat} {p : Addr} {a b c e : Expr} {es : List Expr} {S Sa Sb : D → Prop} {Ss : List D → Prop} {T : Bool → Prop} {ds : List D} {pos pos' p1 p2 : Pos} {x y : Str} {rest b1 b2 body : List Stmt} {N : DEnd}
theorem dsx_run {t : TS} (h : DSX X F E rest N) : PSs X rest (fun D σ H => ∃ x k, tS X.K X.mg F (E x k) N D σ H) := ⟨fun pins s σ H D I ⟨x, k, q⟩ => (h x k).run pins s σ H D I q⟩
theorem dsx_set (he : DX X F E e S) (hr : ∀ d, S d → DSX X F (fun x k => (E x k).set i (.dat d)) rest N) (hN : X.N.Nodup) (hi : X.N[i]? = some y := by rfl) (hx : Loc X.env.scope y := by first | exact .inl rfl | exact .inr rfl)
    (hs : swapsWith e (some (.Name y pos')) pos.line X.env = pure false := by rfl) (hf : X.fn y = true ∨ X.env.scope.names.lookup y = some .local := by first | exact .inl rfl | exact .inr rfl | assumption) : DSX X F E (.Assign [.Name y pos'] e pos :: rest) N := fun x k =>
  (pss_cons (ps_set hN hi hx he hs hf) PSs.any).imp fun D σ H ⟨G, ex, sl, a⟩ => ⟨x, k, G, ex, sl, fun d x1 k1 v G1 H1 s1 e1 g1 sl1 r1 => ⟨_, hr d s1 x1 k1, tS_up (D := D) e1 g1 (sl1.setD r1) a⟩⟩
theorem dsx_ret (he : DX X F E e S) (h : ∀ d x k, S d → N.rt (E x k) d) : DSX X F E (.Return (some e) pos :: rest) N := fun x k =>
  (pss_cons (ps_ret he) pss_never).imp fun D σ H ⟨G, ex, sl, a⟩ => ⟨x, k, G, ex, sl, fun d x1 k1 v G1 H1 s1 e1 g1 sl1 r1 => a.2.2.2.1 (E x1 k1) σ d v G1 H1 (h d x1 k1 s1) e1 sl1 r1⟩
theorem dsx_if (Mid : Env → Prop) (ht : DXt X F E c T) (h1 : T true → DSX X F E b1 (N.to Mid)) (h2 : T false → DSX X F E b2 (N.to Mid)) (hr : ∀ ρ', Mid ρ' → DS X F ρ' rest N) : DSX X F E (.If c b1 b2 pos :: rest) N := fun x k =>
  ds_cut ((ps_if ht (PSs.any (sts := b1)) (PSs.any (sts := b2))).imp fun D σ H ⟨G, ex, sl, a⟩ => ⟨x, k, G, ex, sl, fun z x1 k1 G1 H1 s1 e1 g1 sl1 => by
    cases z with
    | true => rw [if_pos rfl]; exact ⟨_, h1 s1 x1 k1, tS_up (D := D) e1 g1 sl1 a⟩
    | false => rw [if_neg Bool.false_ne_true]; exact ⟨_, h2 s1 x1 k1, tS_up (D := D) e1 g1 sl1 a⟩⟩) hr
theorem dsx_par (ha : DXs X F E [a, b] Ss) (hS : ∀ l, Ss l → ∃ d1 d2, l = [d1, d2] ∧ DSX X F (fun x k => ((E x k).set i (.dat d1)).set j (.dat d2)) rest N) (hc : X.calm = true) (hN : X.N.Nodup) {px py pt : Pos} {kt k2 pt2} (hi : X.N[i]? = some x := by rfl) (hj : X.N[j]? = some y := by rfl) (hij : i ≠ j := by decide)
    (hx : X.env.scope.names.lookup x = some .local := by rfl) (hy : X.env.scope.names.lookup y = some .local := by rfl)
    (hw : swappedStores [.Tuple [.Name x px, .Name y py] kt pt] (.Tuple [a, b] k2 pt2) X.env = pure (some [x, y]) := by rfl)
    (hs : swapsWithSole [.Tuple [.Name x px, .Name y py] kt pt] (.Tuple [a, b] k2 pt2) pos.line X.env = pure false := by rfl) :
    DSX X F E (.Assign [.Tuple [.Name x px, .Name y py] kt pt] (.Tuple [a, b] k2 pt2) pos :: rest) N := fun x0 k0 =>
  (pss_cons (ps_par hc hN hi hj hij hx hy ha hw hs) PSs.any).imp fun D σ H ⟨G, ex, sl, aa⟩ => ⟨x0, k0, G, ex, sl, fun l x1 k1 vs G1 H1 s1 e1 g1 sl1 r1 => by
    obtain ⟨d1, d2, rfl, hd⟩ := hS l s1
    obtain ⟨v1, t, rfl, u1, r2⟩ := r1.inv_cons
    obtain ⟨v2, t, rfl, u3, r4⟩ := r2.inv_cons
    obtain rfl := r4.inv_nil
    exact ⟨v1, v2, rfl, _, hd x1 k1, tS_up (D := D) e1 g1 ((sl1.setD u1).setD u3) aa⟩⟩
end
end DL
/-! DL10: dice, further: slices, loops, lists, comprehensions; the defs that take dice. -/
namespace DL
open PySem PySem.Spec PyProof.Rows L2
section
variable {X : Cx} {F : Fr0} {E : Fam} {i j : Nat} {p : Addr} {a b c e : Expr} {es : List Expr} {S Sa Sb : D → Prop} {Ss : List D → Prop} {T : Bool → Prop} {ds : List D} {pos pos' p1 p2 : Pos} {x y : Str} {rest b1 b2 body : List Stmt} {N : DEnd} {tg : Expr}
theorem dx_slT {xs : List D} (ha : ∀ x k, DE X F.H0 (E x k) a (.tuple xs)) (hu : DX X F E e Sb) (hS : ∀ d, Sb d → ∃ n : Int, d = .int n ∧ S (.tuple (cutD xs none (some n)))) : DX X F E (.Subscript a (.Slice none (some e) none p2) pos) S :=
  (pe_slice sl_tupA (dx_of (S := fun d => d = .tuple xs) ha rfl) po_none (po_some hu)).imp fun σ H Q ⟨x, k, G, ex, sl, q⟩ => ⟨x, k, G, ex, sl, fun d x1 k1 v G1 H1 s1 e1 g1 sl1 r1 => ⟨x1, k1, G1, e1, sl1, fun d2 x2 k2 v2 G2 H2 s2 e2 g2 sl2 r2 => by
    obtain ⟨n, rfl, hn⟩ := hS d2 s2
    subst s1
    refine ⟨n, dp_int r2, ?_⟩
    obtain ⟨p, ws, rfl, h1, h2⟩ := dp_tup (r1.up g2)
    refine ⟨p, ws, rfl, e2.gh.seqT h1, fun hw => ?_, fun _ m hm => ?_⟩
    · rw [h2.length] at hw
      exact q _ x2 k2 _ G2 H2 hn e2 (g1.trans g2) sl2 (by rw [cutD_whole hw]; exact .tup h1 h2)
    · have t := Ext.new (o := .tup (cutV ws none (some n))) e2.gh hm
      exact q _ x2 k2 _ _ _ hn (e2.trans t) ((g1.trans g2).trans t.g) (sl2.up t) (.tup (.inl (.inl upd_same)) ((cutV_all h2 none (some n)).up t.g))⟩⟩
/-! loops over range(e) -/
def tXi (K : PySem.W.Frag) (F : Fr0) (E : Fam) (S : List D → Prop) : TI := fun σ H R => ∃ x k G, Ext F.G0 F.H0.out G H ∧ Slots K F.H0 G H σ (E x k) ∧ ∀ items x' k' J G2 H2, S items → Ext F.G0 F.H0.out G2 H2 → Ex G G2 → Slots K F.H0 G2 H2 σ (E x' k') → WalkD K G2 J items → R J H2
theorem wd_range {K : PySem.W.Frag} {G : Hp} {n : Nat} : WalkD K G (Itr 0 n) ((List.range n).map fun i => .int (i : Nat)) := by
  rw [WalkD, List.length_map, List.length_range]
  refine ⟨_, (walk_range (lo := 0)).mono (fun _ _ => trivial) fun i H x H' hi _ y => (⟨y, hi⟩ : _ ∧ i < n), fun i H' x H'' G' y e1 e2 => ?_⟩
  obtain ⟨⟨rfl, rfl⟩, hi⟩ := y
  exact ⟨G', .int (i : Nat), Ext.refl e2, by rw [List.getElem?_map, List.getElem?_range hi]; rfl, by show Dp K G' (V.int (0 + (i : Nat))) _; rw [Int.zero_add]; exact .int _⟩
theorem xi_range {M : Nat} (bt : Bt X.mg) (he : DX X F E e S) (hS : ∀ d, S d → ∃ n : Nat, d = .int n ∧ n ≤ M) (hM : M ≤ 100000) (hg : Gl X "range" := by rfl) (he1 : starEach (e :: []) X.env = (false, eval e X.env) :: starEach [] X.env := by rfl) (hs : starEach [e] X.env = [(false, eval e X.env)] := by rfl) :
    PI X tg (.Call (.Name "range" p1) [e] [] pos) (tXi X.K F E fun l => ∃ n : Nat, n ≤ M ∧ l = (List.range n).map fun i => .int (i : Nat)) :=
  (pi_range1 hg (bt.at _) (pa_one he he1) hs).imp fun σ H R ⟨x, k, G, ex, sl, q⟩ => ⟨x, k, G, ex, sl, fun d x1 k1 v G1 H1 s1 e1 g1 sl1 r1 => by
    obtain ⟨n, rfl, hn⟩ := hS d s1
    have e2 : v = .int (n : Int) := dp_int r1
    subst e2
    exact ⟨(n : Int), rfl, by omega, by omega, q _ x1 k1 _ G1 H1 ⟨n, hn, rfl⟩ e1 g1 sl1 wd_range⟩⟩
theorem dsx_for (I : Nat → Env → Prop) (Mid : Env → Prop) (hi : PI X tg c (tXi X.K F E Ss)) (h0 : ∀ x k, I 0 (E x k))
    (hs : ∀ items, Ss items → ∀ i d ρ', items[i]? = some d → I i ρ' → ∃ ρ'' js, DG X F.H0 ρ' tg d ρ'' js ∧ DS X F ρ'' body { N with nx := I (i + 1), ct := I (i + 1), bk := Mid }) (hd : ∀ items, Ss items → ∀ ρ', I items.length ρ' → Mid ρ') (hr : ∀ ρ', Mid ρ' → DS X F ρ' rest N) (hp : PassesOwn (model X.prog X.w) X.A X.env X.xe) (hc : X.calm = true)
    (hf : ∀ x, foldedSetIterable c X.env x = pure x := by intro _; rfl) : DSX X F E (.For tg c body [] pos :: rest) N := fun x k =>
  ds_cut (N := N) (Mid := Mid) ((ps_for hp hc hi PG.any PSs.any hf).imp fun D σ H ⟨G, ex, sl, a⟩ => ⟨x, k, G, ex, sl, fun items x1 k1 J G1 H1 s1 e1 g1 sl1 ⟨Y, w, hy⟩ => by
    refine for_it (g := fun v σ H Q => ∃ t, PG X tg t ∧ t v σ H Q) (tb := fun D σ H => ∃ t, PSs X body t ∧ t D σ H) (D := D) (σ := σ) (H := H1) w (fun i σ' H' => ∃ ρ' G', I i ρ' ∧ Ext F.G0 F.H0.out G' H' ∧ Ex G1 G' ∧ Slots X.K F.H0 G' H' σ' ρ') ⟨_, G1, h0 x1 k1, e1, Ex.refl G1, sl1⟩ (fun i σ' H' _ ⟨ρ', G', _, x', g', _⟩ => g'.trans x'.gh) (fun i v σ' H' H'' hlt ⟨ρ', G', hI, x', g', sl'⟩ hyv => ?_) (fun σ' H' ⟨ρ', G', hI, x', g', sl'⟩ => a.1 ρ' σ' G' H' (hd items s1 ρ' hI) x' (g1.trans g') sl')
    obtain ⟨G2, d, x2, hdi, rd⟩ := hy i H' v H'' G' hyv g' x'.gh
    obtain ⟨ρ'', js, hg, hb⟩ := hs items s1 i d ρ' hdi hI
    refine ⟨_, hg, G2, x2.gh, sl'.up x2, rd, fun σ2 sl2 _ => ⟨_, hb, ?_⟩⟩
    have xx := x'.trans x2
    have gg : Ex G1 G2 := g'.trans x2.g
    exact ⟨G2, xx, sl2, fun ρ3 σ3 G3 H3 q3 x3 e3 s3 => ⟨ρ3, G3, q3, x3, gg.trans e3, s3⟩, fun ρ3 σ3 G3 H3 q3 x3 e3 s3 => a.1 ρ3 σ3 G3 H3 q3 x3 (g1.trans (gg.trans e3)) s3, fun ρ3 σ3 G3 H3 q3 x3 e3 s3 => ⟨ρ3, G3, q3, x3, gg.trans e3, s3⟩, a.2.2.2.1, a.2.2.2.2⟩⟩) hr
/-! lists -/
theorem dsx_app (hi : ∀ x k, (E x k)[i]? = some (.own ds)) (he : DX X F E e S) (hz : ds.length < 100000) (hr : ∀ d, S d → DSX X F (fun x k => (E x k).set i (.own (ds ++ [d]))) rest N) (hNi : X.N[i]? = some x := by rfl) (hv : Vis X.env.scope x := by first | exact Or.inl rfl | exact Or.inr (Or.inl rfl) | exact Or.inr (Or.inr rfl))
    (hd : (x == ("__debug__" : Str)) = false := by decide) (hcd : (x == ("__classdict__" : Str)) = false := by decide)
    (hs : swapsWith (.Call (.Attribute (.Name x p1) "append" p2) [e] [] pos) none pos'.line X.env = pure false := by rfl) (hb : attributeBase (.Name x p1) "append" X.env (eval (.Name x p1) X.env) = eval (.Name x p1) X.env := by rfl) (hfew : ((backTo pos (starEach (e :: []) X.env)).all (fun x => !x.1) && (backToKw pos (keywordEach [] X.env)).all (fun x => x.1.isSome) && decide ((e :: []).length + ([] : List Keyword).length + (if ([] : List Keyword).isEmpty then 0 else 1) < 30)) = true := by rfl) (hl : (p2.endLine == pos.line) = true := by rfl)
    (he1 : starEach (e :: []) X.env = (false, eval e X.env) :: starEach [] X.env := by rfl) (hpl : (backTo pos (starEach [] X.env)).any (·.1) = false := by rfl) :
    DSX X F E (.Expr (.Call (.Attribute (.Name x p1) "append" p2) [e] [] pos) pos' :: rest) N := fun x0 k0 =>
  (pss_cons (ps_expr (pe_bm PySem.F.plainAttrs_list PySem.F.slot_list_append PySem.F.type_list_append mt_append (pv i hNi hv hd hcd) (pa_one he he1) hb hfew hl he1 hpl) hs) PSs.any).imp fun D σ H ⟨G, ex, sl, a⟩ => by
    obtain ⟨q, vs, hq, h0, hg, hh, r⟩ := sl.own i ds _ (hi x0 k0)
    refine ⟨.ref q, hq, .inl ⟨rfl, vs, .inl (.inl hh)⟩, x0, k0, G, ex, sl, fun d x1 k1 v G1 H1 s1 e1 g1 sl1 r1 => ?_⟩
    obtain ⟨q2, vs2, hq2, h02, hg2, hh2, r2⟩ := sl1.own i ds _ (hi x1 k1)
    rw [hq] at hq2
    cases hq2
    refine ⟨q, vs2, v, rfl, rfl, hh2, by rw [r2.length]; exact Nat.lt_of_lt_of_le hz (by decide), _, hr d s1 x1 k1, ?_⟩
    exact tS_up (D := D) ⟨e1.g, e1.h.mut h02, e1.gh.mut hg2, e1.nw, e1.nt⟩ g1 (sl1.mut (hi x1 k1) hq (r2.app (DpAll.one r1))) a
/-- y = x.pop(e) -/
theorem dsx_popAt (hi : ∀ x k, (E x k)[i]? = some (.own ds)) (he : DX X F E e S) (hS : ∀ d, S d → ∃ n : Nat, d = .int n ∧ n < ds.length) (hz : ds.length ≤ 100000) (hr : ∀ (n : Nat) d, ds[n]? = some d → DSX X F (fun x k => ((E x k).set i (.own (ds.eraseIdx n))).set j (.dat d)) rest N) (hN : X.N.Nodup) {py : Pos} (hNi : X.N[i]? = some x := by rfl) (hNj : X.N[j]? = some y := by rfl) (hv : Vis X.env.scope x := by first | exact Or.inl rfl | exact Or.inr (Or.inl rfl) | exact Or.inr (Or.inr rfl))
    (hy : Loc X.env.scope y := by first | exact .inl rfl | exact .inr rfl) (hd : (x == ("__debug__" : Str)) = false := by decide) (hcd : (x == ("__classdict__" : Str)) = false := by decide)
    (hs : swapsWith (.Call (.Attribute (.Name x p1) "pop" p2) [e] [] pos) (some (.Name y py)) pos'.line X.env = pure false := by rfl) (hb : attributeBase (.Name x p1) "pop" X.env (eval (.Name x p1) X.env) = eval (.Name x p1) X.env := by rfl) (hfew : ((backTo pos (starEach (e :: []) X.env)).all (fun x => !x.1) && (backToKw pos (keywordEach [] X.env)).all (fun x => x.1.isSome) && decide ((e :: []).length + ([] : List Keyword).length + (if ([] : List Keyword).isEmpty then 0 else 1) < 30)) = true := by rfl) (hl : (p2.endLine == pos.line) = true := by rfl)
    (he1 : starEach (e :: []) X.env = (false, eval e X.env) :: starEach [] X.env := by rfl) (hpl : (backTo pos (starEach [] X.env)).any (·.1) = false := by rfl)
    (hf : X.fn y = true ∨ X.env.scope.names.lookup y = some .local := by first | exact .inl rfl | exact .inr rfl | assumption) :
    DSX X F E (.Assign [.Name y py] (.Call (.Attribute (.Name x p1) "pop" p2) [e] [] pos) pos' :: rest) N := fun x0 k0 =>
  (pss_cons (ps_set hN hNj hy (pe_bm PySem.F.plainAttrs_list PySem.F.slot_list_pop PySem.F.type_list_pop mt_popAt (pv i hNi hv hd hcd) (pa_one he he1) hb hfew hl he1 hpl) hs hf) PSs.any).imp fun D σ H ⟨G, ex, sl, a⟩ => by
    obtain ⟨q, vs, hq, h0, hg, hh, r⟩ := sl.own i ds _ (hi x0 k0)
    refine ⟨.ref q, hq, .inl ⟨rfl, vs, .inl (.inl hh)⟩, x0, k0, G, ex, sl, fun d x1 k1 v G1 H1 s1 e1 g1 sl1 r1 => ?_⟩
    obtain ⟨q2, vs2, hq2, h02, hg2, hh2, r2⟩ := sl1.own i ds _ (hi x1 k1)
    rw [hq] at hq2
    cases hq2
    obtain ⟨n, rfl, hn⟩ := hS d s1
    obtain ⟨w, hw, rw'⟩ := r2.at (List.getElem?_eq_getElem hn)
    have hv' : v = .int (n : Int) := dp_int r1
    subst hv'
    refine ⟨q, vs2, (n : Int), n, w, rfl, rfl, hh2, by omega, by omega, ?_, hw, _, hr n _ (List.getElem?_eq_getElem hn) x1 k1, ?_⟩
    · have : ixN vs2.length (n : Int) = some n := by
        unfold ixN
        rw [if_pos (by omega), if_pos (by rw [r2.length]; omega)]
        simp
      exact (ixN_seq this).1
    · exact tS_up (D := D) ⟨e1.g, e1.h.mut h02, e1.gh.mut hg2, e1.nw, e1.nt⟩ g1 ((sl1.mut (hi x1 k1) hq (r2.erase n)).setD rw') a
end
end DL
/-! DL11: dice: comprehensions; the defs that take dice; a place of an own list is set. -/
namespace DL
open PySem PySem.Spec PyProof.Rows L2
structure Only (E : Fam) (i : Nat) : Prop where
  own : ∀ x k (j : Nat) (ds : List D) (p0 : Option Addr), (E x k)[j]? = some (Sl.own ds p0) → j = i
  thg : ∀ x k (j : Nat) (t : Thg), (E x k)[j]? ≠ some (Sl.thg t)
def noOwn : Env → Bool
  | [] => true
  | .own _ _ :: _ => false
  | .thg _ :: _ => false
  | _ :: r => noOwn r
theorem noOwn_get : ∀ {r : Env} {j : Nat} {ds p0}, noOwn r = true → r[j]? = some (.own ds p0) → False
  | [], _, _, _, _, h => by simp at h
  | .own _ _ :: _, _, _, _, h, _ => by cases h
  | .thg _ :: _, _, _, _, h, _ => by cases h
  | .un :: r, 0, _, _, _, h => by simp at h
  | .dat _ :: r, 0, _, _, _, h => by simp at h
  | .raw _ :: r, 0, _, _, _, h => by simp at h
  | .un :: r, j + 1, _, _, h, q => noOwn_get (r := r) (j := j) h (by simpa using q)
  | .dat _ :: r, j + 1, _, _, h, q => noOwn_get (r := r) (j := j) h (by simpa using q)
  | .raw _ :: r, j + 1, _, _, h, q => noOwn_get (r := r) (j := j) h (by simpa using q)
theorem noThg_get : ∀ {r : Env} {j : Nat} {t}, noOwn r = true → r[j]? = some (.thg t) → False
  | [], _, _, _, h => by simp at h
  | .own _ _ :: _, _, _, h, _ => by cases h
  | .thg _ :: _, _, _, h, _ => by cases h
  | .un :: r, 0, _, _, h => by simp at h
  | .dat _ :: r, 0, _, _, h => by simp at h
  | .raw _ :: r, 0, _, _, h => by simp at h
  | .un :: r, j + 1, _, h, q => noThg_get (r := r) (j := j) h (by simpa using q)
  | .dat _ :: r, j + 1, _, h, q => noThg_get (r := r) (j := j) h (by simpa using q)
  | .raw _ :: r, j + 1, _, h, q => noThg_get (r := r) (j := j) h (by simpa using q)
theorem only_at {E : Fam} {p : Int → Int → Option Addr} {ds : Int → Int → List D} (h0 : ∀ x k, (E x k)[0]? = some (.own (ds x k) (p x k))) (h : ∀ x k, noOwn (E x k).tail = true) : Only E 0 := ⟨fun x k j ds p0 q => by
  cases j with
  | zero => rfl
  | succ j =>
    cases e : E x k with
    | nil => rw [e] at q; simp at q
    | cons a r =>
      rw [e] at q
      have := h x k
      rw [e] at this
      exact (noOwn_get (r := r) (j := j) this (by simpa using q)).elim, fun x k j t q => by
  cases e : E x k with
  | nil => rw [e] at q; simp at q
  | cons a r =>
    rw [e] at q
    cases j with
    | zero => have := h0 x k; rw [e] at this; simp at this q; rw [q] at this; cases this
    | succ j =>
      have := h x k
      rw [e] at this
      exact noThg_get (r := r) (j := j) this (by simpa using q)⟩
theorem only_zero {E : Fam} {ds : Int → Int → List D} {p : Int → Int → Option Addr} (h : ∀ x k, noOwn (E x k).tail = true) (h0 : ∀ x k, (E x k)[0]? = some (.own (ds x k) (p x k)) := by intro _ _; rfl) : Only E 0 := only_at h0 h
def Bs.plus (B : Bs) (q : Addr) (o : HO) : Bs := ⟨upd B.out q o, B.inv, B.keep⟩
section
variable {K : PySem.W.Frag} {E : Fam} {i : Nat} {p : Addr} {G1 H1 G2 H2 : Hp} {H0 : Bs} {σ : L2.St} {x k x' k' : Int}
theorem Slots.only (s : Slots K H0 G1 H1 σ (E x k)) (dc : Dice E i p) (on : Only E i) (g : Ex G1 G2) (n : G2 p = none) (h : H2 p = some (.lst [.int x', .int k'])) (hin : H0.inv H2) : Slots K H0 G2 H2 σ (E x' k') := by
  obtain ⟨e, h0, hg, hh⟩ := s.dice dc
  have hz : ∀ j ds p0, (E x' k')[j]? = some (.own ds p0) → j = i ∧ ds = [.int x', .int k'] ∧ p0 = some p := fun j ds p0 q => by
    have := on.own x' k' j ds p0 q
    subst this
    rw [dc.has x' k'] at q
    injection q with q
    injection q with q1 q2
    exact ⟨rfl, q1.symm, q2.symm⟩
  refine ⟨by rw [dc.chg x k x' k', List.length_set, s.len], fun j d' hd => ?_, fun j es p0 hd => ?_, fun j k es fs p0 p1 q hjk h1 h2 _ _ => ?_, fun j es p' q h1 h2 => ?_, hin, fun j v9 h9 => by
    rw [dc.chg x k x' k'] at h9
    exact s.raw j v9 (get_set_ne (fun q => by subst q; obtain ⟨e, _⟩ := get_set_eq h9; cases e) h9), .no (on.thg _ _)⟩
  · rw [dc.chg x k x' k'] at hd
    by_cases q : i = j
    · subst q
      obtain ⟨e, hl⟩ := get_set_eq hd
      cases e
    · obtain ⟨v, ev, r⟩ := s.dat j d' (get_set_ne q hd)
      exact ⟨v, ev, r.up g⟩
  · obtain ⟨rfl, rfl, rfl⟩ := hz j es p0 hd
    exact ⟨p, _, e, h0, n, h, .cons (.int _) (.cons (.int _) .nil)⟩
  · exact (hjk ((hz j _ _ h1).1.trans (hz k _ _ h2).1.symm)).elim
  · obtain ⟨rfl, _, e3⟩ := hz j es _ h1
    rw [e] at h2
    cases h2
    cases e3
    rfl
theorem Slots.frame {q9 : Addr} {o9 : HO} (s : Slots K H0 G1 H1 σ (E x k)) (dc : Dice E i p) (on : Only E i) (h9 : p ≠ q9) : Slots K (H0.plus q9 o9) G1 H1 σ (E x k) := by
  obtain ⟨e, h0, hg, hh⟩ := s.dice dc
  refine ⟨s.len, s.dat, fun j es p0 hd => ?_, s.apart, s.pin, s.inv, s.raw, .no (on.thg _ _)⟩
  obtain rfl := on.own x k j es p0 hd
  obtain ⟨q, vs, e', h0', hg', hh', r⟩ := s.own j es p0 hd
  rw [e] at e'
  cases e'
  exact ⟨p, vs, e, by show upd H0.out q9 o9 p = none; rw [upd_ne h9]; exact h0, hg', hh', r⟩
end
/-- no own list of the slots is at q -/
abbrev NoAl (ρ : Env) (σ : L2.St) (q : Addr) : Prop := Free ρ σ q
/-- a new list -/
def tXL (K : PySem.W.Frag) (F : Fr0) (E : Fam) (S : List D → Prop) : TE := fun σ H Q => ∃ x k G, Ext F.G0 F.H0.out G H ∧ Slots K F.H0 G H σ (E x k) ∧ ∀ q vs ds x' k' G2 H2, S ds → Ext F.G0 F.H0.out G2 H2 → Ex G G2 → Slots K F.H0 G2 H2 σ (E x' k') → F.H0.out q = none → NoAl (E x' k') σ q → G2 q = none → H2 q = some (.lst vs) → DpAll K G2 vs ds → Q (.ref q) H2
section
variable {X : Cx} {F : Fr0} {E : Fam} {i : Nat} {p : Addr} {tg iter elt e : Expr} {scope : Scope} {own : List (Str × Nat)} {pos p1 : Pos} {items : List D} {Se S : D → Prop}
theorem dlx_lc (E' : D → Fam) (hc : X.calm = true) (hN : X.N.Nodup) (hi : ∀ x k, DI X F.H0 (E x k) tg iter items) (ok : BlkOk X.N X.env.scope scope own) (hz : items.length ≤ 100000) (dc : Dice E i p) (on : Only E i) (dc' : ∀ d, Dice (E' d) i p) (on' : ∀ d, Only (E' d) i)
    (hb : ∀ d ∈ items, ∃ js, (∀ j ∈ js, j ∈ own.map (·.2)) ∧ ∀ (s : Shared) (H : Hp) (C : Addr) (cl : List (Str × Addr)) (fp : List Addr), (∀ x k H0, DG (X.blk s H scope (compEnvC scope cl C X.env) fp) H0 (wipeE (E x k) (own.map (·.2))) tg d (E' d x k) js) ∧ ∀ F', DX (X.blk s H scope (compEnvC scope cl C X.env) fp) F' (E' d) elt Se)
    (hs : ∀ x, foldedSetIterable iter X.env x = pure x := by intro _; rfl) : PE X (.ListComp elt [⟨tg, iter, [], 0⟩] scope pos) (tXL X.K F E fun ds => ds.length = items.length ∧ ∀ d ∈ ds, Se d) :=
  (pe_lc (own := own) (wi := fun σ H R => ∃ x k, tI X.K F.H0 (E x k) items σ H R) (g := lcG X scope tg) (tt := lcT X scope []) (te := lcE X scope elt) hc hN ⟨fun pins s σ H Q I ⟨x, k, q⟩ => (hi x k).run pins s σ H Q I q⟩ ok
    (fun s H C cl fp => ⟨fun pins s' σ H' v u Q I r ⟨t, h, q⟩ => (h s H C cl fp).run pins s' σ H' v u Q I r q⟩)
    (fun s H C cl fp => ⟨fun pins s' σ H' Q I ⟨t, h, q⟩ => (h s H C cl fp).run pins s' σ H' Q I q⟩)
    (fun s H C cl fp => ⟨fun pins s' σ H' Q I ⟨t, h, q⟩ => (h s H C cl fp).run pins s' σ H' Q I q⟩) hs).imp fun σ H Q ⟨x0, k0, G, e0, sl, q⟩ => by
  refine ⟨x0, k0, G, e0.gh, sl, fun J G1 H1 y1 ⟨Y, w, hy⟩ Dl hD => ?_⟩
  obtain ⟨eσ, h0p, _, hhp⟩ := (sl.up y1).dice dc
  have neD : p ≠ Dl := fun z => by subst z; rw [hD] at hhp; cases hhp
  have g1D : G1 Dl = none := y1.gh.back hD
  have e1 := e0.trans y1
  refine lc_it (g := lcG X scope tg) (tt := lcT X scope []) (te := lcE X scope elt) (vs := own.map (·.2)) (σ := σ) (Qd := fun H' => Q (.ref Dl) H') w (fun n H' => ∃ x k G' acc ds, Ext F.G0 F.H0.out G' H' ∧ Ex G1 G' ∧ Slots X.K F.H0 G' H' σ (E x k) ∧ G' Dl = none ∧ H' Dl = some (.lst acc) ∧ DpAll X.K G' acc ds ∧ ds.length = n ∧ ∀ d ∈ ds, Se d)
    ⟨x0, k0, G1, [], [], ⟨e1.g, e1.h.mut (e1.h.back hD), e1.gh.mut g1D, e1.nw, e1.nt⟩, Ex.refl G1, (sl.up y1).only dc on (Ex.refl G1) ((sl.up y1).dice dc).2.2.1 (by rw [upd_ne neD]; exact hhp) (F.H0.keep _ _ (sl.up y1).inv fun a o ha _ => Ex.new hD a o ha), g1D, upd_same, .nil, rfl, fun d h => by cases h⟩ (fun n H' _ ⟨x, k, G', acc, ds, ex, g, _⟩ => g.trans ex.gh) (fun n v H' H'' hn ⟨x, k, G', acc, ds, ex, g, s1, gn, ha, ra, hl, hse⟩ hyv => ?_) (fun H' ⟨x, k, G', acc, ds, ex, g, s1, gn, ha, ra, hl, hse⟩ => ?_)
  · obtain ⟨G2, d, x2, hd, rd⟩ := hy n H' v H'' G' hyv g ex.gh
    have hdm : d ∈ items := List.mem_of_getElem? hd
    obtain ⟨js, hjs, hb'⟩ := hb d hdm
    have s2 := s1.up x2
    have a2 : H'' Dl = some (.lst acc) := x2.h _ _ ha
    have n2 : G2 Dl = none := x2.keepN gn ha
    have ex2 := ex.trans x2
    refine ⟨tG X.K F.H0 (wipeE (E x k) (own.map (·.2))) d (E' d x k) js, fun s H C cl fp => (hb' s H C cl fp).1 x k F.H0, G2, x2.gh, slots_wipe s2 _, rd, fun σ' sl' hw => ⟨(hw _ hjs).trans (wipe_wipe _ σ), ?_⟩⟩
    refine ⟨tT X.K F.H0 (E' d x k) true, fun s H C cl fp => dts_nil, G2, x2.gh, sl', fun G3 H3 x3 => ?_⟩
    show (if true = true then _ else _)
    rw [if_pos rfl]
    have sl3 := sl'.up x3
    have ex3 := ex2.trans x3
    have a3 : H3 Dl = some (.lst acc) := x3.h _ _ a2
    have n3 : G3 Dl = none := x3.keepN n2 a2
    have f0 : F.H0.out Dl = none := e1.h.back hD
    obtain ⟨_, h0', _, _⟩ := sl3.dice (dc' d)
    refine ⟨tX X.K ⟨F.H0.plus Dl (.lst acc), F.G0, F.E⟩ (E' d) Se, fun s H C cl fp => (hb' s H C cl fp).2 _, x, k, G3, ⟨ex3.g, fun a o h => ?_, ex3.gh, fun a o h m => ?_, ex3.nt⟩, sl3.frame (dc' d) (on' d) neD, fun d4 x4 k4 v4 G4 H4 se4 e4 g4 sl4 r4 => ?_⟩
    · by_cases z : a = Dl
      · subst z; change upd F.H0.out a (.lst acc) a = some o at h; rw [upd_same] at h; cases h; exact a3
      · change upd F.H0.out Dl (.lst acc) a = some o at h; rw [upd_ne z] at h; exact ex3.h a o h
    · show upd F.H0.out Dl (.lst acc) a = none
      by_cases z : a = Dl
      · subst z; rw [n3] at h; cases h
      · rw [upd_ne z]; exact ex3.nw a o h m
    · have a4 : H4 Dl = some (.lst acc) := e4.h Dl _ upd_same
      have n4 : G4 Dl = none := by
        cases z : G4 Dl with
        | none => rfl
        | some o =>
          have f1 : F.G0 Dl = none := ex3.g.back n3
          have := e4.nw Dl o z f1
          change upd F.H0.out Dl (.lst acc) Dl = none at this
          rw [upd_same] at this; cases this
      have ex4 : Ext F.G0 F.H0.out G4 H4 := ⟨e4.g, fun a o h => e4.h a o (by
        show upd F.H0.out Dl (.lst acc) a = some o
        rw [upd_ne (ne_of_none h f0)]; exact h), e4.gh, fun a o h m => by
        have := e4.nw a o h m
        change upd F.H0.out Dl (.lst acc) a = none at this
        by_cases z : a = Dl
        · subst z; exact f0
        · rw [upd_ne z] at this; exact this, e4.nt⟩
      obtain ⟨_, _, gp4, hp4⟩ := sl4.dice (dc' d)
      have gg : Ex G' G4 := x2.g.trans (x3.g.trans g4)
      refine ⟨acc, a4, ?_, x4, k4, G4, acc ++ [v4], ds ++ [d4], ⟨ex4.g, ex4.h.mut f0, ex4.gh.mut n4, ex4.nw, ex4.nt⟩, g.trans gg, s1.only dc on gg gp4 (by rw [upd_ne neD]; exact hp4) (F.H0.keep _ _ sl4.inv fun b o hb9 hnl => by rw [upd_ne fun z => by rw [z, a4] at hb9; cases hb9; exact hnl trivial]; exact hb9), n4, upd_same, (ra.up gg).app (DpAll.one r4), by rw [List.length_append, hl]; rfl, fun d hd => ?_⟩
      · rw [ra.length, hl]; exact Nat.lt_of_lt_of_le hn (Nat.le_trans hz (by decide))
      · rcases List.mem_append.mp hd with hd | hd
        · exact hse d hd
        · rw [List.mem_singleton.mp hd]; exact se4
  · refine q Dl acc ds x k G' H' ⟨hl, hse⟩ ex (y1.g.trans g) s1 (e1.h.back hD) ⟨fun j es p0 hj hσ => ?_, fun j t hj => (on.thg _ _ _ _ hj).elim⟩ gn ha ra
    obtain rfl := on.own x k j es p0 hj
    rw [eσ] at hσ
    cases hσ
    exact neD rfl
/-- tuple([..]) -/
theorem dx_tupL {Ss : List D → Prop} (bt : Bt X.mg) (h : PE X e (tXL X.K F E Ss)) (hS : ∀ l, Ss l → S (.tuple l)) (hg : Gl X "tuple" := by rfl) (he : starEach (e :: []) X.env = (false, eval e X.env) :: starEach [] X.env := by rfl) (hpl : (backTo pos (starEach [] X.env)).any (·.1) = false := by rfl) : DX X F E (.Call (.Name "tuple" p1) [e] [] pos) S :=
  (pe_callTy call_tuple_of hg (bt.at _) (by decide +kernel) (pa_one h he) (by decide) (by decide) he hpl).imp fun σ H Q ⟨x, k, G, ex, sl, q⟩ => ⟨x, k, G, ex, sl, fun a vs ds x1 k1 G1 H1 s1 e1 g1 sl1 _ _ n1 hh r1 => ⟨a, vs, rfl, .inl ⟨.inl (.inl hh), fun l hl => by
    have t := Ext.new (o := .tup vs) e1.gh hl
    exact q _ x1 k1 _ _ _ (hS ds s1) (e1.trans t) (g1.trans t.g) (sl1.up t) (.tup (.inl (.inl upd_same)) (r1.up t.g))⟩⟩⟩
end
/-! ### a place of an own list is set -/
section
variable {X : Cx} {F : Fr0} {ρ : Env} {e b : Expr} {ds : List D} {d : D} {pos p1 p2 : Pos} {x : Str} {rest : List Stmt} {N : DEnd}
theorem ds_setIx {i n : Nat} {p9 : Option Addr} (hi : ρ[i]? = some (.own ds p9)) (he : DE X F.H0 ρ e d) (hb : DE X F.H0 ρ b (.int (n : Int))) (hn : n < ds.length) (hr : DS X F (ρ.set i (.own (ds.set n d) p9)) rest N) (hNi : X.N[i]? = some x := by rfl) (hv : Vis X.env.scope x := by first | exact Or.inl rfl | exact Or.inr (Or.inl rfl) | exact Or.inr (Or.inr rfl))
    (hd : (x == ("__debug__" : Str)) = false := by decide) (hcd : (x == ("__classdict__" : Str)) = false := by decide)
    (ha : ∀ v, assign (.Subscript (.Name x p1) b p2) X.env v = (do
      let ov ← holding [v] (eval (.Name x p1) X.env)
      let iv ← holding [v, ov] (eval b X.env)
      standAt p2
      holding [v, ov, iv] (setItem ov iv v)
      release [v, ov, iv] []) := by intro _; rfl)
    (hs : swapsWithSole [.Subscript (.Name x p1) b p2] e pos.line X.env = pure false := by rfl) (hw : swappedStores [.Subscript (.Name x p1) b p2] e X.env = pure none := by rfl)
    (h1 : (assignEach [.Subscript (.Name x p1) b p2] X.env).map (·.2) = [assign (.Subscript (.Name x p1) b p2) X.env] := by rfl) : DS X F ρ (.Assign [.Subscript (.Name x p1) b p2] e pos :: rest) N :=
  (pss_cons (ps_asg he (pg_sub (pv i hNi hv hd hcd) hb set_list ha) hs hw h1) hr).imp fun D σ H ⟨G, ex, sl, a⟩ => by
    obtain ⟨q, vs, hq, h0, hg, hh, r⟩ := sl.own i ds _ hi
    refine ⟨G, ex.gh, sl, fun v G1 H1 y r1 => ⟨.ref q, hq, G1, y.gh, sl.up y, fun u G2 H2 z r2 => ?_⟩⟩
    have hu := dp_int r2
    subst hu
    have yz := y.trans z
    refine ⟨q, vs, (n : Int), n, rfl, rfl, yz.h _ _ hh, ?_, ?_⟩
    · unfold ixN
      rw [if_pos (by omega), if_pos (by rw [r.length]; omega)]
      simp
    · have e1 := ex.trans yz
      exact tS_up (D := D) ⟨e1.g, e1.h.mut h0, e1.gh.mut (yz.keepN hg hh), e1.nw, e1.nt⟩ yz.g ((sl.up yz).mut hi hq ((r.up yz.g).set (r1.up z.g) n)) a
end
/-! ### defs that take dice -/
def startD (N : List Str) (p : Addr) (x k : Int) (ds : List D) : Env := .own [.int x, .int k] (some p) :: (ds.map .dat ++ List.replicate (N.length - ds.length - 1) .un)
def hasDice (p : Addr) (ρ : Env) : Prop := ∃ x k, ρ[0]? = some (.own [.int x, .int k] (some p))
def endD (p : Addr) (res : D → Prop) : DEnd := { nx := fun ρ => res .none ∧ hasDice p ρ, rt := fun ρ d => res d ∧ hasDice p ρ }
theorem slots_startD {K : PySem.W.Frag} {G H : Hp} {vs : List V} {ds : List D} {p : Addr} {x k : Int} (N : List Str) (e : Ex G H) (g : G p = none) (h : H p = some (.lst [.int x, .int k])) (r : DpAll K G vs ds) : Slots K (.of (del H p)) G H (L2.start N (.ref p :: vs)) (startD N p x k ds) := by
  have hs : L2.start N (.ref p :: vs) = some (.ref p) :: (vs.map some ++ List.replicate (N.length - ds.length - 1) none) := by
    unfold L2.start
    rw [List.map_cons, List.cons_append, List.length_cons, r.length]
    congr 3
  have hn : ∀ {m : Nat} {es p0}, (startD N p x k ds)[m]? = some (.own es p0) → m = 0 ∧ es = [.int x, .int k] ∧ p0 = some p := fun {m es p0} q => by
    cases m with
    | zero =>
      unfold startD at q
      injection q with q
      injection q with q1 q2
      exact ⟨rfl, q1.symm, q2.symm⟩
    | succ m =>
      exfalso
      have q : (ds.map Sl.dat ++ List.replicate (N.length - ds.length - 1) Sl.un)[m]? = some (.own es p0) := q
      by_cases hi : m < ds.length
      · rw [List.getElem?_append_left (by simpa using hi), List.getElem?_map, List.getElem?_eq_getElem hi] at q
        cases Option.some.inj q
      · rw [List.getElem?_append_right (by simpa using hi), List.getElem?_replicate] at q
        split at q <;> cases q
  rw [hs]
  refine ⟨by unfold startD; simp [r.length], fun i d q => ?_, fun i es p0 q => ?_, fun i j es fs p0 p1 p2 hij h1 h2 _ _ => ?_, fun i es p2 q h1 h2 => ?_, trivial, fun i v9 q => ?_, .no fun i t q => ?_⟩
  · cases i with
    | zero => unfold startD at q; injection q with q; cases q
    | succ m =>
      have q : (ds.map Sl.dat ++ List.replicate (N.length - ds.length - 1) Sl.un)[m]? = some (.dat d) := q
      have hi : m < ds.length := by
        by_cases hi : m < ds.length
        · exact hi
        · rw [List.getElem?_append_right (by simpa using hi), List.getElem?_replicate] at q
          split at q <;> cases q
      have hd : ds[m]? = some d := by
        rw [List.getElem?_append_left (by simpa using hi), List.getElem?_map, List.getElem?_eq_getElem hi] at q
        rw [List.getElem?_eq_getElem hi]
        have := Option.some.inj q
        injection this with e
        rw [e]
      obtain ⟨v, hv, rv⟩ := r.at hd
      refine ⟨v, ?_, rv⟩
      show (vs.map some ++ List.replicate (N.length - ds.length - 1) none)[m]? = _
      rw [List.getElem?_append_left (by rw [List.length_map, r.length]; exact hi), List.getElem?_map, hv]
      rfl
  · obtain ⟨rfl, rfl, rfl⟩ := hn q
    exact ⟨p, _, rfl, del_same, g, h, .cons (.int _) (.cons (.int _) .nil)⟩
  · exact (hij ((hn h1).1.trans (hn h2).1.symm)).elim
  · obtain ⟨rfl, _, e3⟩ := hn h1
    injection h2 with h2
    injection h2 with h2
    injection h2 with h2
    injection e3 with e3
    rw [← h2, e3]
  · exfalso
    cases i with
    | zero => unfold startD at q; injection q with q; cases q
    | succ m =>
      have q : (ds.map Sl.dat ++ List.replicate (N.length - ds.length - 1) Sl.un)[m]? = some (.raw v9) := q
      by_cases hi : m < ds.length
      · rw [List.getElem?_append_left (by simpa using hi), List.getElem?_map, List.getElem?_eq_getElem hi] at q
        cases Option.some.inj q
      · rw [List.getElem?_append_right (by simpa using hi), List.getElem?_replicate] at q
        split at q <;> cases q
  · exfalso
    cases i with
    | zero => unfold startD at q; injection q with q; cases q
    | succ m =>
      have q : (ds.map Sl.dat ++ List.replicate (N.length - ds.length - 1) Sl.un)[m]? = some (.thg t) := q
      by_cases hi : m < ds.length
      · rw [List.getElem?_append_left (by simpa using hi), List.getElem?_map, List.getElem?_eq_getElem hi] at q
        cases Option.some.inj q
      · rw [List.getElem?_append_right (by simpa using hi), List.getElem?_replicate] at q
        split at q <;> cases q
section
variable {P : Program} {w : World} {K : PySem.W.Frag} {mg : Str → Option Value} {base : Heap} {α : Type} {enc : α → List D} {pre : α → Prop} {res : α → D → Prop} {x : Str} {st : Stmt} {N ps : List Str} {k : Nat}
theorem DefAt.okD (h : DefAt K mg x st ps) (S : FnScope N ps (defScope st)) (hlen : ∀ a, (enc a).length + 1 = ps.length)
    (body : ∀ a, pre a → ∀ (f : Addr) (cdv : Value) (A : Around) (outer : List PySem.Env) (s : Shared) (H G : Hp) (p : Addr) (E : XK), Room k (A.deeper (envOfC x (defScope st) s.heap.objs.size f cdv)) →
      TakesE (cxOf (L2N.CX P w) P w K mg base N x (defScope st) f cdv A outer s H E) ⟨.of (del H p), G, E⟩ → PassesOwn (model P w) (cxOf (L2N.CX P w) P w K mg base N x (defScope st) f cdv A outer s H E).A (cxOf (L2N.CX P w) P w K mg base N x (defScope st) f cdv A outer s H E).env (cxOf (L2N.CX P w) P w K mg base N x (defScope st) f cdv A outer s H E).xe →
      DSX (cxOf (L2N.CX P w) P w K mg base N x (defScope st) f cdv A outer s H E) ⟨.of (del H p), G, E⟩ (fun x k => startD N p x k (enc a)) (defBody st) (endD p (res a))) : DefOk P w K mg base (k + 1) x ps (spDice K mg enc pre res) := by
  obtain ⟨f, fd, hm, F, hb⟩ := h
  refine ⟨f, fd, hm, F.kp, hb, ?_⟩
  refine F.okN S (fun vs H Q E ⟨a, G, p, x0, k0, vr, hv, _, _, _, r, _⟩ => by rw [hv, List.length_cons, r.length]; exact hlen a) (fun cdv A outer s H vs Q E hr ⟨a, G, p, x0, k0, vr, hv, e, g, hh, r, hp, q⟩ => ?_)
  subst hv
  have fin : ∀ d v ρ' σ' G' H', res a d → hasDice p ρ' → Ext G (del H p) G' H' → Slots K (.of (del H p)) G' H' σ' ρ' → Dp K G' v d → (∃ z, σ'[0]? = some (some (.ref z))) → Q v H' := fun d v ρ' σ' G' H' hd ⟨x1, k1, hρ⟩ e' sl' rd _ => by
    obtain ⟨z, vs', e1, h0, hg, hh', r'⟩ := sl'.own 0 _ _ hρ
    obtain rfl := sl'.pin 0 _ p z hρ e1
    obtain ⟨v1, t, rfl, r1, r2⟩ := r'.inv_cons
    obtain ⟨v2, t, rfl, r3, r4⟩ := r2.inv_cons
    obtain rfl := r4.inv_nil
    rw [dp_int r1, dp_int r3] at hh'
    exact q d x1 k1 v G' H' hd e' hg hh' rd
  have tk : TakesE (cxOf (L2N.CX P w) P w K mg base N x (defScope st) f cdv A outer s H E) ⟨.of (del H p), G, E⟩ := L2N.takes_of rfl rfl rfl rfl
  refine ⟨_, body a hp f cdv A outer s H G p E hr tk (passes_of rfl) x0 k0, G, ⟨Ex.refl G, del_ex, e, fun a o h n => (by change G a = none at n; rw [h] at n; cases n), fun _ _ h => h⟩, slots_startD N e g hh r, fun ρ' σ' G' H' h x' _ s' => ?_, fun _ _ _ _ h => h.elim, fun _ _ _ _ h => h.elim, fun ρ' σ' d v G' H' h x' s' r' => ?_, fun n C G' H' h => h.elim⟩
  · obtain ⟨h1, h2⟩ := h
    obtain ⟨x1, k1, hρ⟩ := id h2
    obtain ⟨z, _, e1, _⟩ := s'.own 0 _ _ hρ
    exact fin .none .non ρ' σ' G' H' h1 h2 x' s' .non ⟨z, e1⟩
  · obtain ⟨h1, h2⟩ := h
    obtain ⟨x1, k1, hρ⟩ := id h2
    obtain ⟨z, _, e1, _⟩ := s'.own 0 _ _ hρ
    exact fin d v ρ' σ' G' H' h1 h2 x' s' r' ⟨z, e1⟩
end
end DL
/-! DL12: while an exception is handled: the end of a list's walk, comprehensions over a list, sum, isinstance of the exception. -/
namespace LQ
open PySem PySem.Spec PyProof.Rows L2 L2H HotX
abbrev St := L2.St
section
variable {prog : Program} {w : World} {A : Around} {E : Value → Shared → Prop} {s : Shared}
theorem list_end_hot {it l x1 : Addr} {i : Nat} {items : Array Value} {Q : Option Value → Shared → Prop} (hot : HotAt A x1 s.heap) (hne : it ≠ x1) (hit : s.heap.IsListIter it l i) (hl : s.heap.IsList l items) (hx : items[i]? = none)
    (hQ : ∀ h', (∀ b o, b ≠ it → s.heap.get? b = some o → h'.get? b = some o) → Q none { s with heap := h' }) : wpAny (model prog w) A (pyNext (.ref it)) Q E s := by
  obtain ⟨hh, o1, vs1, h1, d1, c1⟩ := hot
  obtain ⟨o, ho, hc, hd⟩ := id hit
  obtain ⟨ol, hol, _, nl, hdl⟩ := hl
  unfold pyNext
  refine wpAny_bind (wpAny_attempt (wpAny_callSpecial?_slot (name := Str.ofString "__next__") hit.typeIs slot_listiter_next
    (wpAny_call_entry slot_listiter_next hit.typeIs entry_listiter_next ?_ (args_listiter_next _))))
  show wpAny _ _ (field (.ref it) 0 >>= _) _ _ s
  refine wpAny_bind (wpAny_field ho hd (x := .ref l) rfl ?_)
  show wpAny _ _ (if (Value.ref l == Value.none) = true then _ else _) _ _ s
  rw [if_neg (show ¬ ((Value.ref l == Value.none) = true) from Bool.false_ne_true)]
  show wpAny _ _ (field (.ref it) 1 >>= _) _ _ s
  refine wpAny_bind (wpAny_field ho hd (x := .int i 0) rfl ?_)
  show wpAny _ _ (seqItems? (.ref l) >>= _) _ _ s
  refine wpAny_bind (wpAny_seqItems hol hdl ?_)
  simp only [Int.toNat_natCast, hx]
  refine wpAny_bind (wpAny_rule (wpAny_bind (wpAny_setField ho hd (by simp) ?_)))
  show wpAny _ _ (newExc (.type "StopIteration") [] >>= _) _ _ _
  refine wpAny_bind ?_
  simp only [newExc, newTuple]
  refine wpAny_bind (wpAny_newObj_type ?_ (by size_fits))
  refine wpAny_bind (m := firstArgMember _ _) (wpAny_of_eq (a := Value.none) (by first | rfl | (simp only [firstArgMember]; rfl)) ?_)
  refine wpAny_newObj_type ?_ (by size_fits)
  have h1u := (Heap.SameBut.update s.heap it (Obj.mapFields (·.setIfInBounds 0 Value.none))).extBut x1 o1 (Ne.symm hne) h1
  refine raiseNew_hot ⟨hh, o1, vs1, Heap.get?_push_of_some _ (Heap.get?_push_of_some _ h1u), d1, c1⟩ (Nat.ne_of_lt (Heap.lt_size (Heap.get?_push_of_some _ h1u))) (Heap.get?_push_size _ rfl) rfl (by first | (simp; done) | (simp; omega) | (simp only [Array.size_append]; simp; omega)) ?_
  refine wpAny_bind (wpAny_isInstance (T := "StopIteration") (b := true) ⟨_, Heap.get?_update_self _ (Heap.get?_push_size _ rfl) rfl, rfl⟩ isSubtype_stop ?_)
  refine wpAny_pure (hQ _ fun b o hb e => ?_)
  have e2 := (Heap.SameBut.update s.heap it (Obj.mapFields (·.setIfInBounds 0 Value.none))).extBut b o hb e
  rw [Heap.get?_update_other _ _ (Nat.ne_of_gt (Heap.lt_size (Heap.get?_push_of_some _ e2)))]
  exact Heap.get?_push_of_some _ (Heap.get?_push_of_some _ e2)
end
/-- a list's walk, whatever is handled -/
structure TurnC (P : Program) (w : World) (K : PySem.W.Frag) (tg : Expr) (J : It) (fp : List Addr) (it : Addr) (tn : Nat → Heap → Prop) : Prop where
  mem : it ∈ fp
  obj : ∀ i h, tn i h → ∀ b ∈ fp, ∃ o, h.get? b = some o ∧ ∀ v, o.data ≠ .cell v
  keep : ∀ i h h', tn i h → (∀ b ∈ fp, ∀ o, h.get? b = some o → h'.get? b = some o) → tn i h'
  item : ∀ (X : Cx), X.prog = P → X.w = w → X.K = K → ∀ (i : Nat) (pins : List (Addr × Obj)) (s : Shared) (σ : St) (H : Hp) (E : Value → Shared → Prop), Inv X pins σ H s → (∀ b ∈ fp, FpOk X pins H b) → tn i s.heap → J.go i H →
    wpAny (model P w) X.A (pyNext (.ref it)) (fun r s1 => ∃ u, r = some u ∧
      wpAny (model P w) X.A (letOwnedTupleGo tg (.ref it) u) (fun _ s2 => ∃ x H', Inv X pins σ H' s2 ∧ RelV x u ∧ J.yld i H x H' ∧ tn (i + 1) s2.heap ∧ ∀ b ∈ fp, H' b = none) E s1) E s
  done : ∀ (X : Cx), X.prog = P → X.w = w → X.K = K → ∀ (x1 : Addr) (i : Nat) (pins : List (Addr × Obj)) (s : Shared) (σ : St) (H : Hp) (E : Value → Shared → Prop), HotAt X.A x1 s.heap → (∀ b ∈ fp, b ≠ x1) → Inv X pins σ H s → (∀ b ∈ fp, FpOk X pins H b) → tn i s.heap → J.stop i H →
    wpAny (model P w) X.A (pyNext (.ref it)) (fun r s1 => r = none ∧ Inv X pins σ H s1) E s
  self : ∀ (A : Around) (i : Nat) (s : Shared) (Q : Value → Shared → Prop) (E : Value → Shared → Prop), tn i s.heap → Q (.ref it) s → wpAny (model P w) A (pyIter (.ref it)) Q E s
theorem turn_listC {P : Program} {w : World} {K : PySem.W.Frag} {tg : Expr} (a it : Addr) : TurnC P w K tg (Itl K a) [it] it (fun i h => h.IsListIter it a i) where
  mem := by simp
  obj := fun i h st b hb => by
    have e : b = it := by simpa using hb
    subst e
    obtain ⟨o, e, c, d⟩ := st
    exact ⟨o, e, fun v z => by rw [d] at z; cases z⟩
  keep := fun i h h' st k => st.at fun o e => k it (by simp) o e
  item := by
    intro X hP hw hK i pins s σ H E I hf st hg
    subst hP hw hK
    obtain ⟨xs, x, hq, hx⟩ := hg
    obtain ⟨its, rv, p, hz⟩ := I.list hq
    obtain ⟨u, hu, ru⟩ := rv.get hx
    obtain ⟨f0, f1, f2, f3, f4, f5⟩ := hf it (by simp)
    refine wpAny_pyNext_list_item st p.isList (x := u) (by simpa using hu) fun h' st' sb => ?_
    have I1 : Inv X pins σ H { s with heap := h' } := I.turned (t' := s.toks) (fun b o hb e => (sb.2 b hb).trans e) f0 f1 f3 f4 f5
    obtain ⟨o, e, c, d⟩ := id st'
    exact ⟨u, rfl, go_of (s := { s with heap := h' }) e c d (by decide) ⟨x, H, I1, ru, ⟨rfl, fun ys hy => by rw [I.list_inj hy hq]; exact hx⟩, st', fun b hb => (hf b hb).1⟩⟩
  done := by
    intro X hP hw hK x1 i pins s σ H E hot hn1 I hf st hg
    subst hP hw hK
    obtain ⟨xs, hq, hx⟩ := hg
    obtain ⟨its, rv, p, hz⟩ := I.list hq
    obtain ⟨f0, f1, f2, f3, f4, f5⟩ := hf it (by simp)
    have hl := rv.length
    exact list_end_hot hot (hn1 it (by simp)) st p.isList (by simp; omega) fun h' eb => ⟨rfl, I.turned (t' := s.toks) (fun b o hb e => eb b o hb e) f0 f1 f3 f4 f5⟩
  self := fun _ _ _ _ _ st h => wpAny_pyIter_listiter st h
def PIEC (X : Cx) (pins : List (Addr × Obj)) (σ : St) (tg : Expr) (R : It → Hp → Prop) (itv : Value) (s2 : Shared) : Prop :=
  ∃ (it : Addr) (fp : List Addr) (tn : Nat → Heap → Prop) (J : It) (H' : Hp), itv = .ref it ∧ Inv X pins σ H' s2 ∧ TurnC X.prog X.w X.K tg J fp it tn ∧ tn 0 s2.heap ∧ (∀ b ∈ fp, FpOk X pins H' b) ∧ R J H'
structure PIC (X : Cx) (tg iter : Expr) (wi : TI) : Prop where
  run : ∀ (pins : List (Addr × Obj)) (s : Shared) (σ : St) (H : Hp) (R : It → Hp → Prop), Inv X pins σ H s → wi σ H R →
    wpAny (model X.prog X.w) X.A (eval iter X.env) (fun v s1 => wpAny (model X.prog X.w) X.A (pyIter v) (PIEC X pins σ tg R) X.xe s1) X.xe s
theorem pi_listC {X : Cx} {tg l : Expr} {tl : TE} (hl : PE X l tl) : PIC X tg l (iList X.K tl) := by
  refine ⟨fun pins s σ H R I h => ?_⟩
  refine thn (hl.run pins s σ H _ I h) fun v s1 ⟨x, H1, I1, r1, q1⟩ => ?_
  obtain ⟨a, e, ⟨xs, hq⟩, q⟩ := q1
  subst e
  cases r1
  obtain ⟨its, rv, p, hz⟩ := I1.list hq
  refine wpAny_pyIter_list p.isList ?_
  refine ⟨s1.heap.objs.size, [s1.heap.objs.size], _, _, H1, rfl, I1.kept (t' := s1.toks) fun b o e => Heap.get?_push_of_some _ e, turn_listC a _, ⟨_, Heap.get?_push_size _ rfl, rfl, rfl⟩, fun b hb => ?_, q⟩
  have e : b = s1.heap.objs.size := by simpa using hb
  subst e
  exact I1.fpOk (Nat.le_refl _) (I1.hok.fresh (Nat.le_refl _))
section
variable {X : Cx}
/-- a comprehension over a list, while an exception is handled -/
theorem pe_lcH {elt tg iter : Expr} {ifs : List Expr} {scope : Scope} {own : List (Str × Nat)} {pos : Pos} {wi : TI} {g : TG} {tt : TT} {te : TE} (hc : HotC X) (hN : X.N.Nodup) (hi : PIC X tg iter wi) (ok : BlkOk X.N X.env.scope scope own)
    (hg : ∀ (s : Shared) (H : Hp) (C : Addr) (cl : List (Str × Addr)) (fp : List Addr), PG (X.blk s H scope (compEnvC scope cl C X.env) fp) tg g) (ht : ∀ (s : Shared) (H : Hp) (C : Addr) (cl : List (Str × Addr)) (fp : List Addr), PTs (X.blk s H scope (compEnvC scope cl C X.env) fp) ifs tt)
    (he : ∀ (s : Shared) (H : Hp) (C : Addr) (cl : List (Str × Addr)) (fp : List Addr), PE (X.blk s H scope (compEnvC scope cl C X.env) fp) elt te) (hs : ∀ x, foldedSetIterable iter X.env x = pure x := by intro _; rfl) :
    PE X (.ListComp elt [⟨tg, iter, ifs, 0⟩] scope pos) (tLc wi g tt te (own.map (·.2))) := by
  refine ⟨fun pins s σ H Q I h => ?_⟩
  rw [eval_ListComp]
  obtain ⟨px, ⟨hh, v1, ev1, cv1⟩, hpx⟩ := hc
  have hfree : ∀ y ∈ scope.names, y.2 = .free → ∃ c, X.env.cells.lookup y.1 = some c := fun y hy e => by
    rcases ok.free y hy e with k | k
    · exact I.ok.has _ (.inl k)
    · exact I.ok.has _ (.inr k)
  refine wpAny_comprehension_free (use := none) rfl hs (closure_ok hfree) ok.kind (fun y hy e => by rw [ok.uniq y hy, e])
    (thn (hi.run pins s σ H _ I h) fun xv s1 hx => thn hx fun itv s2 h2 => ?_)
  obtain ⟨it, fp, tn, J, H2, e, I2, T, st2, f2, q⟩ := h2
  subst e
  refine wpAny_newObj_type (newEnv_comp ?_) (by show 0 ≤ sizeLine; decide)
  generalize hD : s2.heap.objs.size = D
  have hDn : H2 D = none := I2.hok.fresh (Nat.le_of_eq hD)
  obtain ⟨W, ⟨m0, w0⟩, turn⟩ := q D hDn
  generalize hs3 : ({ s2 with heap := s2.heap.push { cls := .type "list", data := .seq ([] : List Value).toArray } } : Shared) = s3
  have I3 : Inv X pins σ (upd H2 D (.lst [])) s3 := by
    rw [← hs3]
    refine I2.laid (t' := s2.toks) (fun b o e => Heap.get?_push_of_some _ e) (Nat.le_of_eq hD) ⟨Nat.zero_le _, [], 0, .nil, ?_⟩
    rw [← hD]
    exact Heap.get?_push_size _ rfl
  have h3 : s3.heap = s2.heap.push { cls := .type "list", data := .seq ([] : List Value).toArray } := by rw [← hs3]
  have sz : ∀ b ∈ fp, b < s2.heap.objs.size := fun b hb => by
    obtain ⟨o, e, _⟩ := T.obj _ _ st2 b hb
    exact Heap.lt_size e
  have f3 : ∀ b ∈ fp, FpOk X pins (upd H2 D (.lst [])) b ∧ b < s3.heap.objs.size := fun b hb => by
    have hlt := sz b hb
    refine ⟨⟨?_, (f2 b hb).2⟩, by rw [h3, Heap.size_push]; exact Nat.lt_succ_of_lt hlt⟩
    rw [upd_ne (by rw [← hD]; exact Nat.ne_of_lt hlt)]
    exact (f2 b hb).1
  have st3 : tn 0 s3.heap := T.keep _ _ _ st2 fun b _ o e => by rw [h3]; exact Heap.get?_push_of_some _ e
  have I4 := block_start I3 ok hN f3
  have pg := hg s3 (upd H2 D (.lst [])) s3.heap.objs.size (cellsFrom (s3.heap.objs.size + 1) scope.names (cloFrom X.env.cells scope.names [])) fp
  have pt := ht s3 (upd H2 D (.lst [])) s3.heap.objs.size (cellsFrom (s3.heap.objs.size + 1) scope.names (cloFrom X.env.cells scope.names [])) fp
  have pe := he s3 (upd H2 D (.lst [])) s3.heap.objs.size (cellsFrom (s3.heap.objs.size + 1) scope.names (cloFrom X.env.cells scope.names [])) fp
  show codeAny _ _ (.compStart (.ListComp elt [⟨tg, iter, ifs, 0⟩] scope pos) 0 (.ref it) (.ref D) (compEnvC scope (cellsFrom (s3.heap.objs.size + 1) scope.names (cloFrom X.env.cells scope.names [])) s3.heap.objs.size X.env)) (compPost (model X.prog X.w) X.A X.xe none _ (.ref D) s3.heap.objs.size) { s3 with heap := pushCells (s3.heap.push { cls := .type "dict", data := .dict #[] }) scope.names }
  have nfp : ∀ b ∈ fp, (upd H2 D (.lst [])) b = none := fun b hb => (f3 b hb).1.1
  -- the handled exception stays
  have P3 := I3.pin px (List.mem_append_left _ hpx)
  have nfx : px.1 ∉ fp := fun z => (f3 _ z).1.2.2.2.2.2 px (List.mem_append_left _ hpx) rfl
  have nst : px.1 ∉ frs X.stack := fun hm => (List.mem_cons.mp (I3.stkSub px.1 hm)).elim P3.2.2.1 P3.2.2.2.1
  generalize hce : compEnvC scope (cellsFrom (s3.heap.objs.size + 1) scope.names (cloFrom X.env.cells scope.names [])) s3.heap.objs.size X.env = ce at I4 pg pt pe ⊢
  have cL : ce.locals = s3.heap.objs.size := by subst hce; rfl
  generalize hH3 : upd H2 D (.lst []) = H3 at I3 I4 pg pt pe w0 nfp f3 P3
  generalize hs4 : ({ s3 with heap := pushCells (s3.heap.push { cls := .type "dict", data := .dict #[] }) scope.names } : Shared) = s4 at I4 ⊢
  have st4 : tn 0 s4.heap := T.keep _ _ _ st3 fun b _ o e => by rw [← hs4]; exact pushCells_keeps _ _ _ _ (Heap.get?_push_of_some _ e)
  have stat : ∀ {σ' : St} {H' : Hp} {s' : Shared}, Inv (X.blk s3 H3 scope ce fp) [] σ' H' s' → (∀ b ∈ fp, H' b = none) → ∀ b ∈ fp, FpOk (X.blk s3 H3 scope ce fp) [] H' b := fun {σ' H' s'} I' hn b hb =>
    ⟨hn b hb, (I'.ok.exf b hb).1, I'.ok.exfs b hb, .inl hb, fun x c e => (I'.ok.exf b hb).2 x c e, fun p hp => absurd (show p ∈ ([] : List (Addr × Obj)) ++ [] from hp) (by simp)⟩
  have hRR : ∀ D C s' m H', Inv X pins σ H' s' → Q (.ref D) H' → s'.heap.Ns C m → FpOk X pins H' C → compPost (model X.prog X.w) X.A X.xe none (EP X pins σ Q) (.ref D) C (.ok .next) s' := fun D C s' m H' I' q hn f => ⟨m, hn, fun h'' sb => by
    obtain ⟨f0, f1, f2, f3, f4, f5⟩ := f
    exact ⟨.ref D, H', I'.turned (t' := s'.toks) (fun b o hb e => (sb.2 b hb).trans e) f0 f1 f3 f4 f5, rfl, q⟩⟩
  have loop : codeAny (model X.prog X.w) X.A (.compLoop (.ListComp elt [⟨tg, iter, ifs, 0⟩] scope pos) 0 (.ref it) (.ref D) ce) (compPost (model X.prog X.w) X.A X.xe none (EP X pins σ Q) (.ref D) s3.heap.objs.size) s4 := by
    refine compLoop_any (fun n s' => ∃ i H', Inv (X.blk s3 H3 scope ce fp) [] (wipe σ (own.map (·.2))) H' s' ∧ tn i s'.heap ∧ (∀ b ∈ fp, H' b = none) ∧ W i n H') ?_ m0 ⟨0, H3, I4, st4, nfp, w0⟩
    rintro n s5 ⟨i, H5, I5, st5, n5, w5⟩
    rcases turn i n H5 w5 with ⟨stop, qq⟩ | ⟨go, Nx, hNx, step⟩
    · have hot5 : HotAt X.A px.1 s5.heap := ⟨hh, px.2, v1, I5.base.keep px.1 px.2 P3.1 P3.2.1 nst nfx, ev1, cv1⟩
      have td := T.done (X.blk s3 H3 scope ce fp) rfl rfl rfl px.1 i [] s5 _ H5 (fun _ _ => False) hot5 (fun b hb z => nfx (z ▸ hb)) I5 (stat I5 n5) st5 stop
      refine thnF td fun r s6 ⟨hr, I6⟩ => ?_
      subst hr
      have I7 : Inv X pins σ H5 s6 := I3.call' (ch := fp) I6.os I6.base I6.hok I6.bare fun b hb => ⟨(f3 b hb).1.2.2.2.1, (f3 b hb).1.2.1, (f3 b hb).1.2.2.2.2.1, (f3 b hb).1.2.2.2.2.2⟩
      have nC : H5 s3.heap.objs.size = none := by
        have z : H5 ce.locals = none := I6.free
        rw [cL] at z
        exact z
      obtain ⟨m, hn, _⟩ := I6.loc
      have hn : s6.heap.Ns ce.locals m := hn
      rw [cL] at hn
      exact hRR D s3.heap.objs.size s6 m H5 I7 qq hn (I3.fpOk (Nat.le_refl _) nC)
    · have ti := T.item (X.blk s3 H3 scope ce fp) rfl rfl rfl i [] s5 _ H5 (fun _ _ => False) I5 (stat I5 n5) st5 go
      refine thnF ti fun r s6 ⟨u, hr, h6⟩ => ?_
      subst hr
      refine thnF h6 fun _ s7 ⟨x, H7, I7, r7, y7, st7, n7⟩ => ?_
      have I7' := I7.pinned (stat I7 n7) (T.obj _ _ st7)
      refine thnF (pg.run _ s7 _ H7 x u _ I7' r7 (step x H7 y7)) fun _ s8 ⟨σ8, H8, I8, hw8, q8⟩ => ?_
      refine thnF (pt.run _ s8 σ8 H8 _ I8 q8) fun b s9 ⟨H9, I9, q9⟩ => ?_
      have fin : ∀ {s' : Shared} {H' : Hp}, Inv (X.blk s3 H3 scope ce fp) ([] ++ pinsAt fp s7.heap) σ8 H' s' → Nx H' → ∃ m, m < n ∧ ∃ i H', Inv (X.blk s3 H3 scope ce fp) [] (wipe σ (own.map (·.2))) H' s' ∧ tn i s'.heap ∧ (∀ b ∈ fp, H' b = none) ∧ W i m H' := fun {s' H'} I' nx => by
        obtain ⟨m', hm, w'⟩ := hNx H' nx
        have pin' : ∀ b ∈ fp, ∀ o, s7.heap.get? b = some o → s'.heap.get? b = some o ∧ H' b = none := fun b hb o e =>
          let z := I'.pin (b, o) (List.mem_append_right _ (List.mem_append_right _ (mem_pinsAt hb e)))
          ⟨z.1, z.2.1⟩
        have hl : (wipe σ (own.map (·.2))).length = σ8.length := by rw [← hw8, wipe_length]
        refine ⟨m', hm, i + 1, H', (I'.unpinned (pins := [])).weak hl (fun j v e => ?_), T.keep _ _ _ st7 fun b hb o e => (pin' b hb o e).1, fun b hb => ?_, w'⟩
        · rw [← hw8] at e
          exact (wipe_some e).1
        · obtain ⟨o, e, _⟩ := T.obj _ _ st7 b hb
          exact (pin' b hb o e).2
      cases b with
      | false =>
        simp only [Bool.false_eq_true, if_false] at q9 ⊢
        exact fin I9 q9
      | true =>
        simp only [if_true] at q9 ⊢
        refine thnF (pe.run _ s9 σ8 H9 _ I9 q9) fun z s10 ⟨yv, H10, I10, r10, acc, hD10, hz10, nx⟩ => ?_
        exact app_ok (X := X.blk s3 H3 scope ce fp) I10 hD10 hz10 r10 fun s11 I11 => fin I11 nx
  exact codeAny_compStart_list loop (T.self X.A 0 _ _ _ st4 loop)
theorem walks_hot {prog : Program} {w : World} {A : Around} {x1 : Addr} {ox : Obj} {v1 : Array Value} (hh : A.handled = some (.ref x1)) (d1 : ox.data = .fields v1) (c1 : v1[2]? = some .none) (I ax : Addr) (hne : ax ≠ I) (hx : I ≠ x1) (items : Array Value) :
    Walks prog w A I [I, ax, x1] [I] items.size (fun i v => items[i]? = some v) (fun i h => h.IsListIter I ax i ∧ h.IsList ax items ∧ h.get? x1 = some ox) where
  sub := fun b hb => by simp at hb; simp [hb]
  frame := fun _ _ _ st hk => ⟨st.1.at fun o e => hk I (by simp) o e, st.2.1.at fun o e => hk ax (by simp) o e, hk x1 (by simp) _ st.2.2⟩
  item := fun i s Q E hi st hQ => by
    refine wpAny_pyNext_list_item st.1 st.2.1 (x := items[i]) (by simp [hi]) fun h' hit' hs' => ?_
    exact hQ _ h' s.toks (by simp [hi]) ⟨hit', st.2.1.extBut hs'.extBut hne, hs'.extBut _ _ (Ne.symm hx) st.2.2⟩ fun b o hb e => hs'.extBut b o (fun h => hb (by simp [h])) e
  done := fun s Q E st hQ => list_end_hot ⟨hh, ox, v1, st.2.2, d1, c1⟩ hx st.1 st.2.1 (by simp) fun h' he' => hQ h' s.toks fun b o hb e => he' b o (fun h => hb (by simp [h])) e
  self := fun _ _ _ _ st hQ => wpAny_pyIter_listiter st.1 hQ
theorem cr_sumH (hc : HotC X) : CallR X (.builtin "sum") (rSum X.K) := by
  intro pins s σ H vs us Q I r h
  obtain ⟨a, ns, rfl, hs, q⟩ := h
  obtain ⟨its, rv, hl, _⟩ := I.list hs
  rw [Vals.ref1 r]
  obtain ⟨px, ⟨hh, v1, ev1, cv1⟩, hpx⟩ := hc
  have P1 := I.pin px (List.mem_append_left _ hpx)
  have hi := rv.ints
  obtain ⟨xs, e⟩ := hi.allInts.items
  have hn : numsOf (intItems xs).toList = ns := by rw [← e]; exact hi.numsOf
  rw [nums_intItems] at hn
  have hl2 := hl.isList
  rw [e] at hl2
  refine call_sum_walkG (iter_intList hl2 fun s₂ e2 st hfp hlI => ?_)
  subst e2
  have hx1 : s.heap.objs.size ≠ px.1 := Nat.ne_of_gt (Heap.lt_size P1.1)
  refine ⟨_, _, _, _, _, _, numAt xs, rfl, walks_hot (A := X.A.in1) hh ev1 cv1 _ a hlI hx1 (intItems xs), ⟨st.1, st.2, Heap.get?_push_of_some _ P1.1⟩, fun b hb => ?_, (fun _ _ => intItems_at), fun h' tk t' hk => ?_⟩
  · have hb' : b = s.heap.objs.size ∨ b = a ∨ b = px.1 := by simpa using hb
    rcases hb' with z | z | z
    · exact hfp b (by simp [z])
    · exact hfp b (by simp [z])
    · rw [z]
      show px.1 < (s.heap.push _).objs.size
      rw [Heap.size_push]
      exact Nat.lt_succ_of_lt (Heap.lt_size P1.1)
  · have hk2 := old_kept hk
    have hz : preSum (numAt xs) (intItems xs).size = ns.sum := by
      rw [show (intItems xs).size = xs.size by simp [intItems], preSum_eq, List.take_of_length_le (by simp), hn]
    exact ⟨.int ns.sum, H, I.kept (t' := tk) hk2, ⟨t', by rw [hz]⟩, q⟩
end
end LQ
/-! DL13: lists joined; what is done with an exception that is handled. -/
namespace DL
open PySem PySem.Spec PyProof.Rows L2 L2H
/-! ### list + list -/
variable (K : PySem.W.Frag) (H0 : Bs) in
def tM (ρ : Env) (ds : List D) : TE := fun σ H Q => ∃ G, Ex G H ∧ Slots K H0 G H σ ρ ∧ ∀ p vs G2 H2, Ext G H G2 H2 → H2 p = some (.lst vs) → DpAll K G2 vs ds → Q (.ref p) H2
/-- a list that is no one's but ours -/
abbrev DM (X : Cx) (H0 : Bs) (ρ : Env) (e : Expr) (ds : List D) : Prop := PE X e (tM X.K H0 ρ ds)
section
variable {X : Cx} {H0 : Bs} {ρ : Env} {a b e elt tg iter : Expr} {ds es : List D} {d : D} {pos p1 p2 p3 : Pos} {x y : Str} {k : Nat}
theorem dm_new (h : DL X H0 ρ e ds) : DM X H0 ρ e ds := h.imp fun σ H Q ⟨G, x, sl, q⟩ => ⟨G, x, sl, fun p vs G2 H2 y _ _ hp r => q p vs G2 H2 y hp r⟩
theorem dm_own (i : Nat) {p9 : Option Addr} (h : ρ[i]? = some (.own ds p9) := by rfl) (hN : X.N[i]? = some x := by rfl) (hv : Vis X.env.scope x := by first | exact Or.inl rfl | exact Or.inr (Or.inl rfl) | exact Or.inr (Or.inr rfl)) (hd : (x == ("__debug__" : Str)) = false := by decide)
    (hcd : (x == ("__classdict__" : Str)) = false := by decide) : DM X H0 ρ (.Name x pos) ds :=
  (pv i hN hv hd hcd).imp fun σ H Q ⟨G, x, sl, q⟩ => let ⟨p, vs, e, _, _, hh, r⟩ := sl.own i ds p9 h; ⟨.ref p, e, q p vs G H (Ext.refl x) hh r⟩
theorem dl_cat (ha : DM X H0 ρ a ds) (hb : DM X H0 ρ b es) (hz : ds.length + es.length ≤ 100000) : DL X H0 ρ (.BinOp a .Add b pos) (ds ++ es) :=
  (pe_op op_cat ha hb).imp fun σ H Q ⟨G, x, sl, q⟩ => ⟨G, x, sl, fun p vs G1 H1 y1 hp r1 => ⟨G1, y1.gh, sl.up y1, fun p2 ws G2 H2 y2 hp2 r2 =>
    ⟨p, p2, vs, ws, rfl, rfl, y2.h _ _ hp, hp2, by rw [r1.length, r2.length]; exact Nat.le_trans hz (by decide), fun l hl => q l _ G2 _ ((y1.trans y2).trans (Ext.heap y2.gh (Ex.new hl))) ((y1.trans y2).h.back hl) (y2.gh.back hl) upd_same ((r1.up y2.g).app r2)⟩⟩⟩
/-- the place of the first True -/
theorem de_indexB {bs : List Bool} {j : Nat} (hj : bs[j]? = some true) (hno : ∀ m, m < j → bs[m]? = some false) (ho : DR X H0 ρ a (bs.map .bool)) (hb : attributeBase a "index" X.env (eval a X.env) = eval a X.env := by rfl)
    (hfew : ((backTo pos (starEach (.Constant (.bool true) k p3 :: []) X.env)).all (fun x => !x.1) && (backToKw pos (keywordEach [] X.env)).all (fun x => x.1.isSome) && decide ((Expr.Constant (.bool true) k p3 :: []).length + ([] : List Keyword).length + (if ([] : List Keyword).isEmpty then 0 else 1) < 30)) = true := by rfl) (hl : (p2.endLine == pos.line) = true := by rfl)
    (he1 : starEach (.Constant (.bool true) k p3 :: []) X.env = (false, eval (.Constant (.bool true) k p3) X.env) :: starEach [] X.env := by rfl) (hpl : (backTo pos (starEach [] X.env)).any (·.1) = false := by rfl) :
    DE X H0 ρ (.Call (.Attribute a "index" p2) [.Constant (.bool true) k p3] [] pos) (.int (j : Nat)) :=
  (pe_bm PySem.F.plainAttrs_list PySem.F.slot_list_index PySem.F.type_list_index mt_index ho (pa_one (de_bl (H0 := H0) (ρ := ρ)) he1) hb hfew hl he1 hpl).imp fun σ H Q ⟨G, x, sl, q⟩ => ⟨G, x, sl, fun p vs G1 H1 y h r => by
    refine ⟨.inl ⟨rfl, vs, h⟩, G1, y.gh, sl.up y, fun v G2 H2 z rv => ?_⟩
    have hv := dp_bool rv
    subst hv
    have hvs := dpAll_bools r
    subst hvs
    refine ⟨p, bs.map .bl, .bl true, j, .bl true, rfl, rfl, z.h.seqL h, rfl, List.all_eq_true.mpr fun v hv => ?_, by rw [List.getElem?_map, hj]; rfl, rfl, fun m z' hm hz => ?_, q _ G2 H2 (y.trans z) (.int _)⟩
    · obtain ⟨b, _, rfl⟩ := List.mem_map.mp hv
      rfl
    · rw [List.getElem?_map, hno m hm] at hz
      cases hz
      rfl⟩
end
/-! ### while an exception is handled -/
section
variable {X : Cx} {H0 : Bs} {ρ : Env} {tg iter elt e : Expr} {ifs : List Expr} {scope : Scope} {own : List (Str × Nat)} {pos p1 p2 : Pos} {α : Type} {xs : List α} {enc : α → D} {ns : List Int}
theorem dl_lcH (p : α → Bool) (g : α → D) (hc : HotC X) (hN : X.N.Nodup) (hi : DE X H0 ρ iter (.list (xs.map enc))) (ok : BlkOk X.N X.env.scope scope own) (hz : xs.length ≤ 100000) (hb : ∀ x ∈ xs, LcTurn X H0 ρ tg ifs elt scope (own.map (·.2)) (enc x) (p x) (g x))
    (hs : ∀ x, foldedSetIterable iter X.env x = pure x := by intro _; rfl) : DL X H0 ρ (.ListComp elt [⟨tg, iter, ifs, 0⟩] scope pos) ((xs.filter p).map g) :=
  (LQ.pe_lcH (own := own) (g := lcG X scope tg) (tt := lcT X scope ifs) (te := lcE X scope elt) hc hN (LQ.pi_listC hi) ok
    (fun s H C cl fp => ⟨fun pins s' σ H' v u Q I r ⟨t, h, q⟩ => (h s H C cl fp).run pins s' σ H' v u Q I r q⟩)
    (fun s H C cl fp => ⟨fun pins s' σ H' Q I ⟨t, h, q⟩ => (h s H C cl fp).run pins s' σ H' Q I q⟩)
    (fun s H C cl fp => ⟨fun pins s' σ H' Q I ⟨t, h, q⟩ => (h s H C cl fp).run pins s' σ H' Q I q⟩) hs).imp fun σ H Q hq => by
    have hq2 := lc_reading (H0 := H0) (ρ := ρ) (X := X) p g hz hb σ H Q hq
    obtain ⟨G, x, sl, q⟩ := hq2
    exact ⟨G, x, sl, fun v G1 H1 y r => by
      obtain ⟨a, vs, rfl, h1, h2⟩ := dp_lst r
      exact ⟨a, rfl, ⟨vs, y.gh.seqL h1⟩, q _ G1 H1 y (wd_list h1 h2)⟩⟩
theorem sumRH (bt : Bt X.mg) (hc : HotC X) (ha : DR X H0 ρ e (ns.map .int)) (hg : Gl X "sum" := by rfl) (he : starEach (e :: []) X.env = (false, eval e X.env) :: starEach [] X.env := by rfl) (hpl : (backTo pos (starEach [] X.env)).any (·.1) = false := by rfl) : DE X H0 ρ (.Call (.Name "sum" p1) [e] [] pos) (.int ns.sum) :=
  de_callBR (LQ.cr_sumH hc) cd_sum hg (bt.at _) (by decide +kernel) ha (by decide) (by decide) he hpl
end
/-- isinstance of the handled exception -/
theorem call_isP {X : Cx} {a Da : Addr} {oe : Obj} (C : ExcC X.K Da) (hz : Zc (.ref Da) none oe) (hf : ∃ vs, oe.data = .fields vs) (hp : (a, oe) ∈ X.pn) : CallR X (.builtin "isinstance") (rIsE X.K Da a) := by
  intro pins s σ H xs us Q I r h
  obtain ⟨c, cv, b, rfl, hcv, e, q⟩ := h
  obtain ⟨u1, u2, rfl, rx, rt⟩ := vals2 r
  obtain rfl : u1 = Value.ref a := rx
  have ec := hcv _ rt
  subst ec
  obtain ⟨hget, _⟩ := I.pin (a, oe) (List.mem_append.mpr (.inl hp))
  obtain ⟨vs, hv⟩ := hf
  have J : PySem.W.InstAt s.heap a oe Da none := by
    obtain ⟨oc, od, oda, osl⟩ := oe
    obtain ⟨h1, h2⟩ := hz
    dsimp only at h1 h2 hv
    subst h1 h2 hv
    exact ⟨hget, rfl, rfl, trivial⟩
  exact PySem.W.kia_one (PySem.W.handS_kitx_exc C.hg C.hk C.hs C.hd C.ha C.hn C.ht C.hm) I.kIn J e (fun z => nomatch z) fun tk => ⟨.bl b, H, I.kept (t' := tk) fun _ _ z => z, rfl, q⟩
section
variable {X : Cx} {H0 : Bs} {ρ : Env} {pos p1 p2 p3 : Pos} {x y : Str} {a Da C' : Addr} {oe : Obj} {b : Bool} {i : Nat} {T : String}
theorem de_isE (C : ExcC X.K Da) (hz : Zc (.ref Da) none oe) (hf : ∃ vs, oe.data = .fields vs) (hp : (a, oe) ∈ X.pn) (bt : Bt X.mg) (hm2 : X.mg y = some (.ref C')) (hk : PySem.W.kitOne X.K (.ref Da) (.ref C') = some b) (hi : ρ[i]? = some (.raw (.ref a)) := by rfl) (hg : Gl X "isinstance" := by rfl) (hg2 : Gl X y := by rfl) (hN : X.N[i]? = some x := by rfl)
    (hv : Vis X.env.scope x := by first | exact Or.inl rfl | exact Or.inr (Or.inl rfl) | exact Or.inr (Or.inr rfl)) (hd : (x == ("__debug__" : Str)) = false := by decide) (hcd : (x == ("__classdict__" : Str)) = false := by decide) (hd2 : (y == ("__debug__" : Str)) = false := by decide)
    (he : starEach (.Name x p3 :: [.Name y p2]) X.env = (false, eval (.Name x p3) X.env) :: starEach [.Name y p2] X.env := by rfl) (he2 : starEach (.Name y p2 :: []) X.env = (false, eval (.Name y p2) X.env) :: starEach [] X.env := by rfl) (hpl : (backTo pos (starEach [.Name y p2] X.env)).any (·.1) = false := by rfl) :
    DE X H0 ρ (.Call (.Name "isinstance" p1) [.Name x p3, .Name y p2] [] pos) (.bool b) :=
  (pe_callB (call_isP C hz hf hp) hg (bt.at _) (by decide +kernel) (pa_cons (pv i hN hv hd hcd) (pa_cons (pe_glob (v := .ref C') hg2 hm2 rfl hd2) pa_nil he2) he) (by decide) (by decide) he hpl).imp fun σ H Q ⟨G, x, sl, q⟩ =>
    ⟨.ref a, sl.raw i _ hi, .ref C', .ref C', b, rfl, fun u hu => hu, hk, q _ G H (Ext.refl x) (.bl _)⟩
theorem de_isET (C : ExcC X.K Da) (hz : Zc (.ref Da) none oe) (hf : ∃ vs, oe.data = .fields vs) (hp : (a, oe) ∈ X.pn) (bt : Bt X.mg) (hv2 : bootBuiltins y = some (.type T)) (hk : PySem.W.kitOne X.K (.ref Da) (.type T) = some b) (hm2 : X.mg y = none) (hi : ρ[i]? = some (.raw (.ref a)) := by rfl) (hg : Gl X "isinstance" := by rfl) (hg2 : Gl X y := by rfl) (hN : X.N[i]? = some x := by rfl)
    (hv : Vis X.env.scope x := by first | exact Or.inl rfl | exact Or.inr (Or.inl rfl) | exact Or.inr (Or.inr rfl)) (hd : (x == ("__debug__" : Str)) = false := by decide) (hcd : (x == ("__classdict__" : Str)) = false := by decide) (hd2 : (y == ("__debug__" : Str)) = false := by decide) (hn2 : y ≠ "__name__" := by decide)
    (he : starEach (.Name x p3 :: [.Name y p2]) X.env = (false, eval (.Name x p3) X.env) :: starEach [.Name y p2] X.env := by rfl) (he2 : starEach (.Name y p2 :: []) X.env = (false, eval (.Name y p2) X.env) :: starEach [] X.env := by rfl) (hpl : (backTo pos (starEach [.Name y p2] X.env)).any (·.1) = false := by rfl) :
    DE X H0 ρ (.Call (.Name "isinstance" p1) [.Name x p3, .Name y p2] [] pos) (.bool b) :=
  (pe_callB (call_isP C hz hf hp) hg (bt.at _) (by decide +kernel) (pa_cons (pv i hN hv hd hcd) (pa_cons (pe_bltn (v := .ty T) hg2 hm2 hv2 rfl hn2 hd2) pa_nil he2) he) (by decide) (by decide) he hpl).imp fun σ H Q ⟨G, x, sl, q⟩ =>
    ⟨.ref a, sl.raw i _ hi, .ty T, .type T, b, rfl, fun u hu => hu, hk, q _ G H (Ext.refl x) (.bl _)⟩
end
/-! ### a def called there, p the handled exception -/
structure FnP (P : Program) (w : World) (K : PySem.W.Frag) (mg : Str → Option Value) (base : Heap) (CX : CXT) (k : Nat) (f : Addr) (fd : FuncData) (ps : List Str) (sp : Sp) (p : Addr × Obj) : Prop where
  len : ∀ vs H Q E, sp vs H Q E → vs.length = ps.length
  run : ∀ (A : Around) (outer : List PySem.Env) (s : Shared) (H : Hp) (args : Args) (us : List Value) (vs : List V) (Q : VK) (E : XK), RoomH k A → Hot1 A p → PinOk outer H s p → Env0 P w K mg base A outer s H → BindsTo s fd args (ps.zip us) → Vals vs us → sp vs H Q E →
    codeAny (model P w) A (.call (.ref f) args) (CR CX outer P w H s Q E) s
theorem fun_okP {P : Program} {w : World} {K : PySem.W.Frag} {mg : Str → Option Value} {base : Heap} {CX : CXT} {x qual : Str} {st : Stmt} {f : Addr} {fd : FuncData} {N ps : List Str} {k : Nat} {sp : Sp} {p : Addr × Obj} (F : Fun K x qual st f fd) (S : FnScope N ps (defScope st)) (len : ∀ vs H Q E, sp vs H Q E → vs.length = ps.length)
    (hbody : ∀ (cdv : Value) (A : Around) (outer : List PySem.Env) (s : Shared) (H : Hp) (vs : List V) (Q : VK) (E : XK), Hot1 A p → RoomH k (A.deeper (envOfC qual (defScope st) s.heap.objs.size f cdv)) → sp vs H Q E →
      ∃ t, PSs (cxH CX P w K mg base N qual (defScope st) f cdv A outer s H E p) (defBody st) t ∧ t { nx := fun _ H' => Q .non H', rt := Q } (L2.start N vs) H) :
    FnP P w K mg base CX (k + 1) f fd ps sp p := by
  obtain ⟨oc, od, kV, doc, pm, an, cdv, ct, osl, rfl, lk, hcd⟩ := F.ex
  refine ⟨len, fun A outer s H args us vs Q E hr hot hpin e0 hb r hsp => ?_⟩
  have hl := len _ _ _ _ hsp
  have KX : K.In s.heap := e0.mod.kin.keeps fun b o e => (e0.bs b o e).1
  have lim : s.heap.NoLimit := e0.mod.nolimit.keeps fun b o e => (e0.bs b o e).1
  have hkind : ∀ y ∈ ps.zip us, (defScope st).names.lookup y.1 = some .local ∨ ((defScope st).names.lookup y.1 = some .cell ∧ ((cellsFrom (s.heap.objs.size + 1) (defScope st).names []).lookup y.1).isSome = true) := fun ⟨n, v⟩ hy => by
    rcases S.par n (List.of_mem_zip hy).1 with q | q
    · exact .inl q
    · exact .inr ⟨q, PySem.W.cellsFrom_some _ _ _ (.inl q)⟩
  refine codeAny_call_function hr.depth (KX _ _ lk) rfl S.co S.gen rfl (PySem.W.codeRec_of KX hcd) (hb _ _ _ _ ?_)
  refine wpAny_newFunctionEnv_cells S.kind hkind fun env he s1 x => ?_
  subst he
  refine ⟨lim.keeps x.toInCall.keep, codeAny_func ?_⟩
  obtain ⟨t, ht, hq⟩ := hbody cdv A outer s H vs Q E hot (hr.deeper _) hsp
  have I : Inv (cxH CX P w K mg base N qual (defScope st) f cdv A outer s H E p) [] (L2.start N vs) H s1 := inv_startH S hpin e0 hl r x
  refine wpAny_mono (ht.run [] s1 (L2.start N vs) H _ I hq) (fun fl s' hs => ?_) fun e s' hs => hs
  have fin : ∀ {σ' : L2.St} {H' : Hp} {v : V} {u : Value}, Inv (cxH CX P w K mg base N qual (defScope st) f cdv A outer s H E p) [] σ' H' s' → RelV v u → Q v H' → CE outer P w H s Q u s' :=
    fun {σ' H' v u} J rv q => ⟨v, H', J.os, J.bare, J.base, J.hok, rv, q⟩
  cases fl with
  | ret u =>
    obtain ⟨v, σ', H', J, rv, q⟩ := hs
    exact fin J rv q
  | next =>
    obtain ⟨σ', H', J, q⟩ := hs
    exact fin (v := V.non) (u := Value.none) J rfl q
  | brk =>
    obtain ⟨_, _, _, q⟩ := hs
    exact False.elim q
  | cont =>
    obtain ⟨_, _, _, q⟩ := hs
    exact False.elim q
/-- f(x), x the handled exception -/
theorem pe_callP {X : Cx} {CX : CXT} {k i : Nat} {f : Addr} {fd : FuncData} {ps : List Str} {sp : Sp} {x y : Str} {q py pos : Pos} {p : Addr × Obj} (F : FnP X.prog X.w X.K X.mg X.base CX k f fd ps sp p) (hr : RoomH k X.A) (hot : Hot1 X.A p) (hp : p ∈ X.pn) (hg : Gl X x) (hm : X.mg x = some (.ref f)) (hk : PySem.W.keepIn X.K (.ref f) = true) (hb : Binds X.K fd ps []) (hx : Passes CX X E0)
    (hN : X.N[i]? = some y) (hv : Vis X.env.scope y) (hd : (y == ("__debug__" : Str)) = false) (hcd : (y == ("__classdict__" : Str)) = false) (hdb : (x == ("__debug__" : Str)) = false := by decide) (he : starEach (.Name y py :: []) X.env = (false, eval (.Name y py) X.env) :: starEach [] X.env := by rfl) (hpl : (backTo pos (starEach [] X.env)).any (·.1) = false := by rfl) :
    PE X (.Call (.Name x q) [.Name y py] [] pos) (fun σ H Q => ∃ v, σ[i]? = some (some v) ∧ sp [v] H Q E0) := by
  refine ⟨fun pins s σ H Q I ⟨v, hs, h⟩ => ?_⟩
  have ha : PA X [.Name y py] (tCons (fun σ H Q => ∃ v, σ[i]? = some (some v) ∧ Q v H) tNil) := pa_one (pv i hN hv hd hcd) he
  refine wpAny_Call_Name_kw (ld_glob I hg hm ?_ hdb)
  refine PySem.W.callWith_K (h₀ := X.base) I.ok.mod.kin hk (thn (ha.run pos pins s σ H (fun vs H1 => vs = [v] ∧ H1 = H) I ⟨v, hs, rfl, rfl⟩) fun us s1 ⟨vs, H1, I1, r, q⟩ => ⟨I1.kIn, ?_⟩) he hpl
  obtain ⟨rfl, rfl⟩ := q
  have hl : us.length = ps.length := by rw [← r.length]; exact F.len _ _ _ _ h
  have b := hb s1 us I1.kIn (by rw [List.append_nil]; exact hl)
  rw [List.append_nil] at b
  have P1 := I1.pin p (List.mem_append_left _ hp)
  have hpin : PinOk X.stack H1 s1 p := ⟨P1.1, P1.2.1, fun hm => (List.mem_cons.mp (I1.stkSub p.1 hm)).elim P1.2.2.1 P1.2.2.2.1, P1.2.2.2.2⟩
  refine wpAny_call (codeAny_mono (F.run X.A X.stack s1 H1 ⟨us, []⟩ us [v] Q E0 hr hot hpin I1.env0 b r h) fun r s' hq => ?_)
  cases r with
  | error e => exact hx pins σ H1 s1 e s' I1 hq
  | ok fl =>
    cases fl with
    | ret u => exact I1.after hq
    | next => exact False.elim hq
    | brk => exact False.elim hq
    | cont => exact False.elim hq
end DL
/-! DL14: _law_told of a lambda that calls a def: its data, or ('refused', the name of its exception). -/
namespace DL
open PySem PySem.Spec PyProof.Rows L2 L2H
def termNames : List Str := ["BadShore", "BadPool", "BadHeight", "BadCounts", "BadLot", "BadKinds", "BadBounds", "BadDays", "BadSeen", "Nothing", "Full", "BadText"]
/-- what is known of the exception class Da, named n -/
structure IsK (K : PySem.W.Frag) (mg : Str → Option Value) (n : Str) (Da : Addr) : Prop where
  nm : n ∈ termNames
  has : mg n = some (.ref Da)
  cls : ExcC K Da
  isa : ∀ m ∈ termNames, ∃ C', mg m = some (.ref C') ∧ PySem.W.kitOne K (.ref Da) (.ref C') = some (decide (m = n))
  ve : PySem.W.kitOne K (.ref Da) (.type "ValueError") = some true
def refusedD (n : Str) : D := .tuple [.str "refused", .str n]
/-- what _law_told tells of an outcome -/
def told : Out → D
  | .ok d => d
  | .err n => refusedD n
def spTerm (K : PySem.W.Frag) (a : Addr) (n : Str) : Sp := fun vs H Q _ => vs = [.ref a] ∧ ∃ G, Ex G H ∧ ∀ v G2 H2, Ext G H G2 H2 → Dp K G2 v (refusedD n) → Q v H2
def startP (N : List Str) (a : Addr) : Env := .raw (.ref a) :: List.replicate (N.length - 1) .un
theorem slots_startP {K : PySem.W.Frag} {G H : Hp} {a : Addr} (N : List Str) (e : Ex G H) : Slots K (.of H) G H (L2.start N [.ref a]) (startP N a) := by
  have hn : ∀ {m : Nat} {z : Sl}, (startP N a)[m]? = some z → (m = 0 ∧ z = .raw (.ref a)) ∨ z = .un := fun {m z} q => by
    cases m with
    | zero => unfold startP at q; injection q with q; exact .inl ⟨rfl, q.symm⟩
    | succ m =>
      have q : (List.replicate (N.length - 1) Sl.un)[m]? = some z := q
      rw [List.getElem?_replicate] at q
      split at q
      · cases q; exact .inr rfl
      · cases q
  refine ⟨by unfold L2.start startP; simp, fun i d h => ?_, fun i es p0 h => ?_, fun i j es fs p0 p1 p _ h => ?_, fun i es p q h => ?_, trivial, fun i v h => ?_, .no fun i t h => ?_⟩
  · rcases hn h with ⟨_, e⟩ | e <;> cases e
  · rcases hn h with ⟨_, e⟩ | e <;> cases e
  · rcases hn h with ⟨_, e⟩ | e <;> cases e
  · rcases hn h with ⟨_, e⟩ | e <;> cases e
  · rcases hn h with ⟨rfl, e⟩ | e
    · cases e; rfl
    · cases e
  · rcases hn h with ⟨_, e⟩ | e <;> cases e
end DL
/-! W1: _law_term. -/
namespace LP
open PySem PySem.Spec PyProof.Rows L2 DL L2H
theorem term_one (n : Str) (h : n ∈ termNames) : ((termNames.map fun m => decide (m = n)).map fun b => if b = true then (1 : Int) else 0).sum = 1 ∧ ∃ j : Nat, (termNames.map fun m => decide (m = n))[j]? = some true ∧ (∀ m, m < j → (termNames.map fun m => decide (m = n))[m]? = some false) ∧ termNames[j]? = some n := by
  have key : ∀ n ∈ termNames, ((termNames.map fun m => decide (m = n)).map fun b => if b = true then (1 : Int) else 0).sum = 1 ∧ ∃ j : Fin 12, (termNames.map fun m => decide (m = n))[j.1]? = some true ∧ (∀ m : Fin 12, m.1 < j.1 → (termNames.map fun m => decide (m = n))[m.1]? = some false) ∧ termNames[j.1]? = some n := by decide +kernel
  obtain ⟨h1, j, h2, h3, h4⟩ := key n h
  exact ⟨h1, j.1, h2, fun m hm => h3 ⟨m, Nat.lt_trans hm j.2⟩ hm, h4⟩
section
variable {P : Program} {w : World} {K : PySem.W.Frag} {mg : Str → Option Value} {base : Heap}
theorem k_term (T : Tx K mg) {n : Str} {Da a : Addr} {oe : Obj} (I : IsK K mg n Da) (hz : Zc (.ref Da) none oe) (hf : ∃ vs, oe.data = .fields vs) {CX : CXT} :
    ∃ f fd, mg "_law_term" = some (.ref f) ∧ PySem.W.keepIn K (.ref f) = true ∧ Binds K fd ["_law_e"] [] ∧ FnP P w K mg base CX 1 f fd ["_law_e"] (spTerm K a n) (a, oe) := by
  obtain ⟨f, fd, hm, F, hb⟩ := T.d__law_term
  refine ⟨f, fd, hm, F.kp, hb, fun_okP F sc__law_term (fun vs H Q E h => by rw [h.1]; rfl) fun cdv A outer s H vs Q E hot hr ⟨hv, G, eG, q⟩ => ?_⟩
  subst hv
  have bt := T.bt
  have nd := sc__law_term.nd
  have hu : (A.deeper (envOfC "_law_term" (defScope s__law_term) s.heap.objs.size f cdv)).units + 64 < cLine := by have := hr.un; omega
  have hc : HotC (cxH CX P w K mg base n__law_term "_law_term" (defScope s__law_term) f cdv A outer s H E (a, oe)) := ⟨(a, oe), hot, List.mem_singleton.mpr rfl⟩
  have hp : (a, oe) ∈ (cxH CX P w K mg base n__law_term "_law_term" (defScope s__law_term) f cdv A outer s H E (a, oe)).pn := List.mem_singleton.mpr rfl
  obtain ⟨c1, m1, b1⟩ := I.isa "BadShore" (by decide +kernel)
  obtain ⟨c2, m2, b2⟩ := I.isa "BadPool" (by decide +kernel)
  obtain ⟨c3, m3, b3⟩ := I.isa "BadHeight" (by decide +kernel)
  obtain ⟨c4, m4, b4⟩ := I.isa "BadCounts" (by decide +kernel)
  obtain ⟨c5, m5, b5⟩ := I.isa "BadLot" (by decide +kernel)
  obtain ⟨c6, m6, b6⟩ := I.isa "BadKinds" (by decide +kernel)
  obtain ⟨c7, m7, b7⟩ := I.isa "BadBounds" (by decide +kernel)
  obtain ⟨c8, m8, b8⟩ := I.isa "BadDays" (by decide +kernel)
  obtain ⟨c9, m9, b9⟩ := I.isa "BadSeen" (by decide +kernel)
  obtain ⟨c10, m10, b10⟩ := I.isa "Nothing" (by decide +kernel)
  obtain ⟨c11, m11, b11⟩ := I.isa "Full" (by decide +kernel)
  obtain ⟨c12, m12, b12⟩ := I.isa "BadText" (by decide +kernel)
  have hbs : ∃ bs : List Bool, bs = termNames.map fun m => decide (m = n) := ⟨_, rfl⟩
  obtain ⟨bs, hbs⟩ := hbs
  refine ⟨_, (?_ : DS (cxH CX P w K mg base n__law_term "_law_term" (defScope s__law_term) f cdv A outer s H E (a, oe)) ⟨.of H, G, fun _ _ _ => False⟩ (startP n__law_term a) (defBody s__law_term) { rt := fun _ d => d = refusedD n }), G, Ext.refl eG, slots_startP n__law_term eG, fun _ _ _ _ h => h.elim, fun _ _ _ _ h => h.elim, fun _ _ _ _ h => h.elim, fun ρ' σ' d v G' H' h x' _ r' => q v G' H' x' (h ▸ r'), fun _ _ _ _ h => h.elim⟩
  refine ds_setL (i := 1) (dl_lst (da_cons (de_isE (i := 0) I.cls hz hf hp bt m1 b1) (da_cons (de_isE (i := 0) I.cls hz hf hp bt m2 b2) (da_cons (de_isE (i := 0) I.cls hz hf hp bt m3 b3) (da_cons (de_isE (i := 0) I.cls hz hf hp bt m4 b4) da_nil))))) ?_ nd
  refine ds_setL (i := 1) (dl_cat (dm_own 1) (dm_new (dl_lst (da_cons (de_isE (i := 0) I.cls hz hf hp bt m5 b5) (da_cons (de_isE (i := 0) I.cls hz hf hp bt m6 b6) (da_cons (de_isE (i := 0) I.cls hz hf hp bt m7 b7) da_nil))))) (Nat.le_of_ble_eq_true rfl)) ?_ nd
  refine ds_setL (i := 1) (dl_cat (dm_own 1) (dm_new (dl_lst (da_cons (de_isE (i := 0) I.cls hz hf hp bt m8 b8) (da_cons (de_isE (i := 0) I.cls hz hf hp bt m9 b9) (da_cons (de_isE (i := 0) I.cls hz hf hp bt m10 b10) da_nil))))) (Nat.le_of_ble_eq_true rfl)) ?_ nd
  refine ds_setL (i := 1) (dl_cat (dm_own 1) (dm_new (dl_lst (da_cons (de_isE (i := 0) I.cls hz hf hp bt m11 b11) (da_cons (de_isE (i := 0) I.cls hz hf hp bt m12 b12) da_nil)))) (Nat.le_of_ble_eq_true rfl)) ?_ nd
  refine ds_setL (i := 2) (dl_lst (da_cons de_str (da_cons de_str (da_cons de_str (da_cons de_str (da_cons de_str (da_cons de_str (da_cons de_str (da_cons de_str da_nil))))))))) ?_ nd
  refine ds_setL (i := 2) (dl_cat (dm_own 2) (dm_new (dl_lst (da_cons de_str (da_cons de_str (da_cons de_str (da_cons de_str da_nil)))))) (Nat.le_of_ble_eq_true rfl)) ?_ nd
  refine ds_settle 1 rfl ?_
  have hbv : ([.bool (decide ("BadShore" = n)), .bool (decide ("BadPool" = n)), .bool (decide ("BadHeight" = n)), .bool (decide ("BadCounts" = n))] ++ [.bool (decide ("BadLot" = n)), .bool (decide ("BadKinds" = n)), .bool (decide ("BadBounds" = n))] ++ [.bool (decide ("BadDays" = n)), .bool (decide ("BadSeen" = n)), .bool (decide ("Nothing" = n))] ++ [.bool (decide ("Full" = n)), .bool (decide ("BadText" = n))] : List D) = bs.map .bool := by rw [hbs]; rfl
  have hlen : bs.length = 12 := by rw [hbs]; rfl
  have one : (bs.map fun b => if b = true then (1 : Int) else 0).sum = 1 ∧ ∃ j : Nat, bs[j]? = some true ∧ (∀ m, m < j → bs[m]? = some false) ∧ termNames[j]? = some n := by
    rw [hbs]
    exact term_one n I.nm
  obtain ⟨hsum, j, hj1, hj2, hj3⟩ := one
  rw [hbv]
  refine ds_ifF (dt_w (dw_orF (dt_to (dt_cmp (op_neP hu) (od_neP rfl rfl (.inl (Nat.zero_le _))) (sumRH (ns := bs.map fun b => if b = true then (1 : Int) else 0) bt hc (dr_to (dl_r (dl_lcH (xs := bs) (enc := .bool) (own := [("_law_flag", 3)]) (fun _ => true) (fun b => .int (if b = true then 1 else 0)) hc nd (v 1) (blkOk_by (N := n__law_term) (sc := defScope s__law_term) (by decide +kernel)) (by rw [hlen]; decide) fun b hb => ?_)) ?_)) de_int) (q := false) ?_) (dw_or1 (dt_not (dt_val (de_isET (i := 0) I.cls hz hf hp bt (by decide +kernel) I.ve (bt.at _))))))) ?_
  · exact ⟨_, _, fun j h => h, fun s' H C cl fp => ⟨dg_name nd, dts_nil, fun _ => intB bt (v 3)⟩⟩
  · rw [List.filter_eq_self.mpr fun _ _ => rfl, List.map_map]; rfl
  · rw [eqv_int, hsum]; rfl
  · refine ds_ret (de_tup (da_cons de_str (da_cons (de_ixR (d := .str n) ?_ (vo 2) (de_indexB hj1 hj2 (de_r (v 1)))) da_nil))) rfl
    have h12 : j < 12 := by
      have := (List.getElem?_eq_some_iff.mp hj1).1
      omega
    refine (atI_nat (xs := termNames.map PyData.str) (i := j) (by rw [List.length_map]; exact h12)).trans ?_
    rw [List.getElem_map, (List.getElem?_eq_some_iff.mp hj3).2]
end
end LP
/-! DL15: a lambda handed to _law_told; exceptions whose context is None. -/
namespace LQ
open PySem PySem.Spec PyProof.Rows L2 L2H LamX DL
/-- the context of the lambda's body -/
abbrev lamN (X : Cx) (A : Around) (outer : List PySem.Env) (s : Shared) (H : Hp) (E : XK) (scope : Scope) (f c' : Addr) : Cx :=
  (lamCx X A outer s H E scope f c').wish fun e s' => wpAny (model X.prog X.w) (A.deeper (lamEnv X scope s.heap.objs.size f c')) (leaving (lamEnv X scope s.heap.objs.size f c') e) (fun _ s'' => L2N.CX X.prog X.w outer H s E e s'') (fun e' s'' => L2N.CX X.prog X.w outer H s E e' s'') s'
section
variable {X : Cx} {pins : List (Addr × Obj)} {σ : L2.St} {H HZ : Hp} {s s1 : Shared}
theorem pe_actN {CXg : CXT} {Eg : XK} {Ng : List Str} {qg : Str} {sg : Scope} {g f c' : Addr} {cdg pm ctv : Value} {params : Arguments} {body : Expr} {scope : Scope} {k i : Nat} {a : Str} {pn : List (Addr × Obj)} {xe : Value → Shared → Prop} {W : WX} {E : XK} {tb : TE} {p1 p2 : Pos}
    (I : Inv X pins σ H s) (L : LamS X.env.scope scope) (hf : s.heap.get? f = some (PySem.W.kla_obj "<lambda>" (X.env.qual ++ "<lambda>") params body scope (cloFrom X.env.cells scope.names []) pm c' ctv)) (hfn : H f = none) (hfr : f ∉ frs X.stack)
    (hbind : bindArgs (PySem.W.kla_fn "<lambda>" (X.env.qual ++ "<lambda>") params body scope (cloFrom X.env.cells scope.names []) pm (.ref c') ctv) ⟨[], []⟩ = pure [])
    (tk : L2N.Takes ((cxOf CXg X.prog X.w X.K X.mg X.base Ng qg sg g cdg X.A X.stack s H Eg).tr pn xe) W) (hW : ∀ cls d σ' H', E cls d H' → W cls d σ' H') (hr : Room (k + 1) (X.A.deeper (envOfC qg sg s.heap.objs.size g cdg)))
    (hbody : ∀ (A : Around) (outer : List PySem.Env) (s : Shared) (H : Hp), Room k (A.deeper (lamEnv X scope s.heap.objs.size f c')) → PE (lamN X A outer s H E scope f c') body tb)
    (hN : Ng[i]? = some a) (hv : Vis sg a) (hd : (a == ("__debug__" : Str)) = false := by decide) (hcd : (a == ("__classdict__" : Str)) = false := by decide) :
    PE ((cxOf CXg X.prog X.w X.K X.mg X.base Ng qg sg g cdg X.A X.stack s H Eg).tr pn xe) (.Call (.Name a p1) [] [] p2)
      (fun σZ HZ Q => σZ[i]? = some (some (.ref f)) ∧ HZ c' = some (CodeO c' (X.env.qual ++ "<lambda>")) ∧ tb σ HZ Q) := by
  refine ⟨fun pinsZ sZ σZ HZ Q IZ h => ?_⟩
  obtain ⟨hs, hc, ht⟩ := h
  refine wpAny_Call_Name_kw (thn ((pe_var (pos := p1) (i := i) hN hv hd hcd).run pinsZ sZ σZ HZ (fun v H1 => v = .ref f ∧ H1 = HZ) IZ ⟨.ref f, hs, rfl, rfl⟩) fun u s1 ⟨v, H1, I1, r1, q1⟩ => ?_)
  obtain ⟨ev, eH⟩ := q1
  subst ev
  rw [eH] at I1
  obtain rfl : u = Value.ref f := r1
  have of1 : s1.heap.get? f = some (PySem.W.kla_obj "<lambda>" (X.env.qual ++ "<lambda>") params body scope (cloFrom X.env.cells scope.names []) pm c' ctv) := I1.base.keep f _ hf hfn hfr (fun z => nomatch (show f ∈ ([] : List Addr) from z))
  refine PySem.W.callWith_F0 ⟨_, _, _, _, of1⟩ ?_
  have un : Un (frs X.stack) [] H HZ s.heap s1.heap := I1.base
  obtain ⟨⟨oc, vs, t, hoc, hdc, hvc⟩, _, _⟩ := I1.hok c' _ hc
  have rc : codeAny (model X.prog X.w) (X.A.deeper (envOfC qg sg s.heap.objs.size g cdg)) (.call (.ref f) ⟨[], []⟩) (CR (L2N.CX X.prog X.w) (envOfC qg sg s.heap.objs.size g cdg :: X.stack) X.prog X.w HZ s1 Q E) s1 := by
    refine PySem.W.kla_callFunE hr.depth of1 rfl L.co L.gen rfl ⟨c', oc, vs, t, rfl, hoc, hdc, hvc⟩ ?_
    rw [hbind]
    refine wpAny_pure (wpAny_newFunctionEnv (fun y hy => (L.own y hy).2) (fun y hy => absurd hy (by simp)) (fun h₁ hns hsb => ⟨I1.nolimit.fresh _ hsb, ?_⟩) L.kind)
    show codeAny _ _ (.expr body (lamEnv X scope s1.heap.objs.size f c')) _ _
    have kp : ∀ b o, s1.heap.get? b = some o → h₁.get? b = some o := fun b o e => hsb.extBut b o (Nat.ne_of_lt (Heap.lt_size e)) (Heap.get?_push_of_some _ e)
    have J : Inv (lamN X (X.A.deeper (envOfC qg sg s.heap.objs.size g cdg)) (envOfC qg sg s.heap.objs.size g cdg :: X.stack) s1 HZ E scope f c') [] σ HZ { s1 with heap := h₁, toks := s1.toks + ([] : List (Str × Value)).length } :=
      (lam_start2 I L I1.env0 hr.hd un hns kp).wish _
    refine PySem.W.kla_codeExpr (wpAny_mono ((hbody _ _ s1 HZ (hr.deeper _)).run [] _ _ HZ Q J ht) (fun v s' hq => ?_) fun e s' hq => hq)
    obtain ⟨w', H', J', rv, q⟩ := hq
    exact ⟨w', H', J'.os, J'.bare, J'.base, J'.hok, rv, q⟩
  have hx : Passes (L2N.CX X.prog X.w) ((cxOf CXg X.prog X.w X.K X.mg X.base Ng qg sg g cdg X.A X.stack s H Eg).tr pn xe) E := L2N.passes_call tk hW
  refine wpAny_call (codeAny_mono rc fun r s' hq => ?_)
  cases r with
  | error e => exact hx pinsZ σZ HZ s1 e s' I1 hq
  | ok fl =>
    cases fl with
    | ret u => exact I1.after hq
    | next => exact False.elim hq
    | brk => exact False.elim hq
    | cont => exact False.elim hq
end
/-- the def that calls what it got -/
def GivesN (X : Cx) (Ng : List Str) (x : Str) (sg : Scope) (g : Addr) (cdg : Value) (bg : List Stmt) (a : Str) (q : Str) (k : Nat) (TT : (XK → Hp → VK → Prop) → Hp → VK → Prop) : Prop :=
  ∀ (f c' : Addr) (s : Shared) (H : Hp) (Q : VK) (tl : XK → Hp → VK → Prop), Room k (X.A.deeper (envOfC x sg s.heap.objs.size g cdg)) →
    (∀ (W : WX) (pn : List (Addr × Obj)) (xe : Value → Shared → Prop) (E : XK) (p1 p2 : Pos), L2N.Takes ((cxOf C8.CX0 X.prog X.w X.K X.mg X.base Ng x sg g cdg X.A X.stack s H C8.E0).tr pn xe) W → (∀ cls d σ' H', E cls d H' → W cls d σ' H') →
      PE ((cxOf C8.CX0 X.prog X.w X.K X.mg X.base Ng x sg g cdg X.A X.stack s H C8.E0).tr pn xe) (.Call (.Name a p1) [] [] p2) (fun σZ HZ Q => σZ[0]? = some (some (.ref f)) ∧ HZ c' = some (CodeO c' q) ∧ tl E HZ Q)) →
    H c' = some (CodeO c' q) → TT tl H Q →
    ∃ t, PSs (cxOf C8.CX0 X.prog X.w X.K X.mg X.base Ng x sg g cdg X.A X.stack s H C8.E0).nox bg t ∧ t { nx := fun _ H' => Q .non H', rt := Q } (L2.start Ng [.ref f]) H
section
variable {X : Cx}
/-- x(lambda: body) -/
theorem pe_lamN {T : List (Addr × Str)} {TT : (XK → Hp → VK → Prop) → Hp → VK → Prop} {x a : Str} {g c P : Addr} {k : Nat} {pg : Arguments} {bg : List Stmt} {sg : Scope} {dV kV doc pm cdv ct oc : Value} {an od : Option Addr} {osl : Array (Option Value)} {Ng : List Str}
    {params : Arguments} {body : Expr} {scope : Scope} {t : XK → TE} {p lpos pos : Pos} (hg : Gl X x) (hm : X.mg x = some (.ref g)) (hk : PySem.W.keepIn X.K (.ref g) = true)
    (lk : X.K.lookup g = some ⟨oc, od, .func (PySem.W.fnOf x x pg bg sg dV kV doc pm an cdv ct), osl⟩) (hcg : PySem.W.codeIn X.K cdv x = true) (hb : L2.Binds X.K (PySem.W.fnOf x x pg bg sg dV kV doc pm an cdv ct) [a] []) (Sg : FnScope Ng [a] sg) (hNg : Ng[0]? = some a) (hva : Vis sg a)
    (hG : GivesN X Ng x sg g cdv bg a (X.env.qual ++ "<lambda>") (k + 1) TT)
    (TB : TabB X.base X.mg c P) (hcode : X.env.code = .ref c) (hmT : (P, X.env.qual ++ "<lambda>") ∈ T) (hu : ∀ p ∈ T, p.1 = P → p.2 = X.env.qual ++ "<lambda>") (hr : Room (k + 2) X.A) (L : LamS X.env.scope scope) (hdef : defaultsOf params X.env = ([], []))
    (hbind : ∀ (q : Str) (cl : List (Str × Addr)) (pm cv ctv : Value), bindArgs (PySem.W.kla_fn "<lambda>" q params body scope cl pm cv ctv) ⟨[], []⟩ = pure [])
    (hbody : ∀ (A : Around) (outer : List PySem.Env) (s : Shared) (H : Hp) (E : XK) (f c' : Addr), Room k (A.deeper (lamEnv X scope s.heap.objs.size f c')) → PE (lamN X A outer s H E scope f c') body (t E))
    (hdb : (x == ("__debug__" : Str)) = false := by decide) (hd : (a == ("__debug__" : Str)) = false := by decide) (hcd : (a == ("__classdict__" : Str)) = false := by decide) :
    PE X (.Call (.Name x p) [.Lambda params body scope lpos] [] pos) (tLam T TT t) := by
  refine ⟨fun pins s σ H Q I h => ?_⟩
  obtain ⟨hT, h⟩ := h
  refine wpAny_Call_Name_kw (ld_glob I hg hm ?_ hdb)
  refine PySem.W.callWith_K (h₀ := X.base) I.ok.mod.kin hk ?_ (by rfl) (by rfl)
  show wpAny _ _ (spliced ((false, eval (.Lambda params body scope lpos) X.env) :: backTo pos (starEach [] X.env))) _ _ s
  refine Calls.spliced_cons (lam_make2 I TB hcode hmT hu hT hdef (L.has I.ok) fun f c' pm' ctv H1 s' I1 eN T1 hf hfn hfr hco => ?_)
  refine Calls.spliced_nil ⟨I1.kIn, ?_⟩
  have rc : codeAny (model X.prog X.w) X.A (.call (.ref g) ⟨[.ref f], []⟩) (CR C8.CX0 X.stack X.prog X.w H1 s' Q C8.E0) s' := by
    refine run_ofS (N := Ng) (ps := [a]) (us := [.ref f]) (vs := [.ref f]) lk hcg Sg hr I1.env0 (hb s' [.ref f] I1.kIn rfl) (.cons rfl .nil) rfl fun hr' => ?_
    obtain ⟨t', ht', hq'⟩ := hG f c' s' H1 Q (fun E H' Q' => t E σ H' Q') hr' (fun W pn xe E p1 p2 tk hW => pe_actN (i := 0) I1 L hf hfn hfr (hbind _ _ _ _ _) tk hW hr' (fun A outer s H hr2 => hbody A outer s H E f c' hr2) hNg hva hd hcd) hco (h H1 eN T1)
    exact ⟨t', ht'.nox, hq'⟩
  refine wpAny_call (codeAny_mono rc fun r s2 hq => ?_)
  cases r with
  | error e => exact (show False from hq).elim
  | ok fl =>
    cases fl with
    | ret u => exact I1.after hq
    | next => exact False.elim hq
    | brk => exact False.elim hq
    | cont => exact False.elim hq
theorem takesN0 {X : Cx} : L2N.Takes X (fun _ _ _ _ => False) := fun _ _ x => by
  obtain ⟨_, _, _, _, _, _, _, _, _, _, _, _, _, _, _, _, z⟩ := x
  exact z.elim
end
/-- what _law_told makes of the lambda's reading: its value, or ('refused', name) -/
def TTerm (K : PySem.W.Frag) (mg : Str → Option Value) (CS : Addr) : (XK → Hp → VK → Prop) → Hp → VK → Prop := fun tl H Q =>
  tl (fun cls d H' => ∃ n Da, cls = .ref Da ∧ d = none ∧ IsK K mg n Da ∧ PySem.W.exmOne K cls (.ref CS) = some true ∧ ∃ G, Ex G H' ∧ ∀ v G2 H2, Ext G H' G2 H2 → Dp K G2 v (refusedD n) → Q v H2) H Q
end LQ
/-! DL16: defs that make lambdas: tables may grow; lists of changing things; rounds of dice. -/
namespace DL
open PySem PySem.Spec PyProof.Rows L2 LamX
def noTbl (H : Hp) : Hp := fun b => match H b with
  | some (.tbl _) => none
  | o => o
theorem noTbl_ex {H : Hp} : Ex (noTbl H) H := fun a o h => by
  unfold noTbl at h
  split at h
  · cases h
  · exact h
theorem noTbl_no {H : Hp} (b : Addr) (ps : Array Value) : noTbl H b ≠ some (.tbl ps) := fun h => by
  have h2 := noTbl_ex b _ h
  unfold noTbl at h
  rw [h2] at h
  cases h
theorem noTbl_at {H : Hp} {b : Addr} {o : HO} (h : H b = some o) (n : ∀ ps, o ≠ .tbl ps) : noTbl H b = some o := by
  unfold noTbl
  rw [h]
  cases o with
  | tbl ps => exact absurd rfl (n ps)
  | _ => rfl
theorem get_update {h : Heap} {a b : Addr} {f : Obj → Obj} (n : a ≠ b) : (h.update a f).get? b = h.get? b := by
  unfold Heap.update Heap.get?
  simp only [Array.getElem?_modify, if_neg n]
theorem get_update_same {h : Heap} {a : Addr} {o : Obj} (e : h.get? a = some o) (u : Obj) (hu : u.data ≠ .freed) : (h.update a fun _ => u).get? a = some u := by
  unfold Heap.update Heap.get?
  unfold Heap.get? at e
  simp only [Array.getElem?_modify, if_pos rfl]
  cases q : h.objs[a]? with
  | none => rw [q] at e; cases e
  | some o' =>
    obtain ⟨c, d, x, sl⟩ := u
    cases x <;> first | rfl | exact absurd rfl hu
theorem not_softC {c : Addr} {q : Str} : ¬ SoftO (CodeO c q) := fun ⟨a, ⟨h, hh⟩, z⟩ => by
  obtain ⟨oc, vs, t, e1, e2, e3⟩ := id hh
  obtain ⟨oa, e4, e5⟩ := z h hh
  by_cases n : a = c
  · subst n
    rw [e1] at e4
    cases e4
    exact e5 vs e2
  · obtain ⟨ob, e6, e7⟩ := z (h.update a fun _ => oc) ⟨oc, vs, t, (get_update n).trans e1, e2, e3⟩
    rw [get_update_same e4 oc (by rw [e2]; intro w; cases w)] at e6
    cases e6
    exact e7 vs e2
theorem tabs_keep {Tb : List (Addr × Str)} : ∀ H H2, Tabs Tb H → (∀ a o, H a = some o → ¬ SoftO o → H2 a = some o) → Tabs Tb H2 := fun H H2 t k p hp => by
  obtain ⟨ps, h1, h2, h3⟩ := t p hp
  refine ⟨ps, k _ _ h1 (fun z => z), h2, fun pos cv hc => ?_⟩
  obtain ⟨c, e1, e2⟩ := h3 pos cv hc
  exact ⟨c, e1, k _ _ e2 not_softC⟩
def Bs.tab (H : Hp) (Tb : List (Addr × Str)) : Bs := ⟨noTbl H, Tabs Tb, tabs_keep⟩
/-- a frame in which lambdas may be made: of the things that stood, the tables of code objects alone may change -/
structure LamF (F : Fr0) (Tb : List (Addr × Str)) : Prop where
  inv : ∀ H, F.H0.inv H ↔ Tabs Tb H
  out : ∀ b ps, F.H0.out b ≠ some (.tbl ps)
  g0 : ∀ b ps, F.G0 b ≠ some (.tbl ps)
/-- what is known of the def that makes them -/
structure LamC (X : Cx) (Tb : List (Addr × Str)) (c Pt : Addr) : Prop where
  tb : TabB X.base X.mg c Pt
  code : X.env.code = .ref c
  mem : (Pt, X.env.qual ++ "<lambda>") ∈ Tb
  uniq : ∀ p ∈ Tb, p.1 = Pt → p.2 = X.env.qual ++ "<lambda>"
/-- .. promises -/
def spTab (K : PySem.W.Frag) (Tb : List (Addr × Str)) {α : Type} (enc : α → List D) (pre : α → Prop) (res : α → D → Prop) : Sp := fun vs H Q _ => ∃ (a : α) (G : Hp), Ex G H ∧ (∀ b ps, G b ≠ some (.tbl ps)) ∧ DpAll K G vs (enc a) ∧ pre a ∧ Tabs Tb H ∧
  ∀ d v G2 H2, res a d → Ext G (noTbl H) G2 H2 → Tabs Tb H2 → Dp K G2 v d → Q v H2
section
variable {P : Program} {w : World} {K : PySem.W.Frag} {mg : Str → Option Value} {base : Heap} {α : Type} {enc : α → List D} {pre : α → Prop} {res : α → D → Prop} {x : Str} {st : Stmt} {N ps : List Str} {k : Nat} {Tb : List (Addr × Str)}
def endR (res : D → Prop) : DEnd := { nx := fun _ => res .none, rt := fun _ d => res d }
/-- a def that makes lambdas: its code object is c -/
structure DefC (K : PySem.W.Frag) (mg : Str → Option Value) (x : Str) (st : Stmt) (ps : List Str) (c : Addr) (f : Addr) (fd : FuncData) : Prop where
  m : mg x = some (.ref f)
  ex : ∃ (oc : Value) (od : Option Addr) (kV doc pm : Value) (an : Option Addr) (ct : Value) (osl : Array (Option Value)),
    fd = PySem.W.fnOf x x (defArgs st) (defBody st) (defScope st) .none kV doc pm an (.ref c) ct ∧ K.lookup f = some ⟨oc, od, .func fd, osl⟩ ∧ PySem.W.codeIn K (.ref c) x = true
  kp : PySem.W.keepIn K (.ref f) = true
  b : Binds K fd ps []
theorem DefC.ok {c f : Addr} {fd : FuncData} (D : DefC K mg x st ps c f fd) (S : FnScope N ps (defScope st)) (hlen : ∀ a, (enc a).length = ps.length)
    (body : ∀ a, pre a → ∀ (A : Around) (outer : List PySem.Env) (s : Shared) (H G : Hp) (E : XK), Room k (A.deeper (envOfC x (defScope st) s.heap.objs.size f (.ref c))) → (∀ b ps, G b ≠ some (.tbl ps)) →
      TakesE (cxOf (L2N.CX P w) P w K mg base N x (defScope st) f (.ref c) A outer s H E) ⟨.tab H Tb, G, E⟩ → PassesOwn (model P w) (cxOf (L2N.CX P w) P w K mg base N x (defScope st) f (.ref c) A outer s H E).A (cxOf (L2N.CX P w) P w K mg base N x (defScope st) f (.ref c) A outer s H E).env (cxOf (L2N.CX P w) P w K mg base N x (defScope st) f (.ref c) A outer s H E).xe →
      LamF ⟨.tab H Tb, G, E⟩ Tb → DS (cxOf (L2N.CX P w) P w K mg base N x (defScope st) f (.ref c) A outer s H E) ⟨.tab H Tb, G, E⟩ (startE N (enc a)) (defBody st) (endR (res a))) :
    FnOk P w K mg base (L2N.CX P w) (k + 1) f fd ps (spTab K Tb enc pre res) := by
  obtain ⟨oc, od, kV, doc, pm, an, ct, osl, rfl, lk, hcd⟩ := D.ex
  refine fn_of lk hcd S (fun vs H Q E ⟨a, G, _, _, r, _⟩ => by rw [r.length]; exact hlen a) fun A outer s H vs Q E hr ⟨a, G, e, ng, r, hp, tb, q⟩ => ?_
  have tk : TakesE (cxOf (L2N.CX P w) P w K mg base N x (defScope st) f (.ref c) A outer s H E) ⟨.tab H Tb, G, E⟩ := L2N.takes_of rfl rfl rfl rfl
  refine ⟨_, body a hp A outer s H G E hr ng tk (passes_of rfl) ⟨fun _ => Iff.rfl, noTbl_no, ng⟩, G, ⟨Ex.refl G, noTbl_ex, e, fun a o h n => (by change G a = none at n; rw [h] at n; cases n), fun _ _ h => h⟩, slots_startB N tb e r, fun ρ' σ' G' H' h x' _ s' => q .none .non G' H' h x' s'.inv .non, fun _ _ _ _ h => h.elim, fun _ _ _ _ h => h.elim, fun ρ' σ' d v G' H' h x' s' r' => q d v G' H' h x' s'.inv r', fun n C G' H' h => h.elim⟩
end
section
variable {X : Cx} {F : Fr0} {E : Fam} {S Sa : D → Prop} {Ss : List D → Prop} {Tb : List (Addr × Str)} {α : Type} {enc : α → List D} {pre : α → Prop} {res : α → D → Prop} {x y : Str} {ps : List Str} {k i : Nat} {e : Expr} {es : List Expr} {p2 pos pos' : Pos} {rest : List Stmt} {N : DEnd}
theorem ext_tab {G H G1 H1 : Hp} (hF : LamF F Tb) (ex : Ext F.G0 F.H0.out G H) (y : Ext G (noTbl H) G1 H1) : Ext F.G0 F.H0.out G1 H1 := by
  refine ⟨ex.g.trans y.g, fun b o h => y.h b o (noTbl_at (ex.h b o h) fun ps z => hF.out b ps (z ▸ h)), y.gh, fun b o h n => ?_, fun b ps h => ex.nt b ps (y.nt b ps h)⟩
  cases q : G b with
  | some u => exact ex.nw b u q n
  | none =>
    have := y.nw b o h q
    cases z : F.H0.out b with
    | none => rfl
    | some u =>
      have h2 := noTbl_at (ex.h b u z) fun ps w => hF.out b ps (w ▸ z)
      rw [h2] at this; cases this
theorem slots_tab {K : PySem.W.Frag} {G H G1 H1 : Hp} {σ : L2.St} {ρ : Env} (hF : LamF F Tb) (sl : Slots K F.H0 G H σ ρ) (y : Ext G (noTbl H) G1 H1) (t : Tabs Tb H1) : Slots K F.H0 G1 H1 σ ρ := by
  refine ⟨sl.len, fun i d h => ?_, fun i ds p0 h => ?_, sl.apart, sl.pin, (hF.inv H1).mpr t, sl.raw, sl.thg.to (fun _ _ h => ⟨h, rfl⟩) (fun _ ds p0 _ h1 h2 => .inl ⟨ds, p0, h1, h2⟩) fun _ t _ h => ⟨fun c hc => ?_⟩⟩
  · obtain ⟨v, e, r⟩ := sl.dat i d h
    exact ⟨v, e, r.up y.g⟩
  · obtain ⟨p, vs, e, h0, hg, hh, r⟩ := sl.own i ds p0 h
    have hn := noTbl_at hh fun ps z => by cases z
    exact ⟨p, vs, e, h0, y.keepN hg hn, y.h _ _ hn, r.up y.g⟩
  · obtain ⟨a1, a2, o, a3, a4⟩ := h.ok c hc
    have hn := noTbl_at a3 fun ps z => by have := c.soft _ _ _ a4; rw [z] at this; exact this
    exact ⟨a1, y.keepN a2 hn, o, y.h _ _ hn, c.mono _ _ _ _ y.g a4⟩
/-- a call of a def that makes lambdas -/
theorem dx_callT {f : Addr} {fd : FuncData} (hF : LamF F Tb) (hm : X.mg x = some (.ref f)) (hk : PySem.W.keepIn X.K (.ref f) = true) (hb : Binds X.K fd ps []) (Fk : FnOk X.prog X.w X.K X.mg X.base (L2N.CX X.prog X.w) k f fd ps (spTab X.K Tb enc pre res)) (a : α) (hr : Room k X.A) (ha : ∀ x k, DA X F.H0 (E x k) (e :: es) (enc a)) (hp : pre a) (hS : ∀ d, res a d → S d) (hg : Gl X x) (hdb : (x == ("__debug__" : Str)) = false := by decide)
    (he : starEach (e :: es) X.env = (false, eval e X.env) :: starEach es X.env := by rfl) (hpl : (backTo pos (starEach es X.env)).any (·.1) = false := by rfl) : DX X F E (.Call (.Name x p2) (e :: es) [] pos) S := by
  refine ⟨fun pins s σ H Q I ⟨x0, k0, G, ex, sl, q⟩ => (pe_call Fk hr hg hm hk hb .nil passLN (ha x0 k0) hdb he hpl).run pins s σ H Q I ?_⟩
  refine ⟨G, ex.gh, sl, fun vs G1 H1 y1 r1 => ?_⟩
  have e1 := ex.trans y1
  have sl1 := sl.up y1
  exact ⟨a, G1, y1.gh, fun b ps h => hF.g0 b ps (e1.nt b ps h), by rw [List.append_nil]; exact r1, hp, (hF.inv H1).mp sl1.inv, fun d v G2 H2 hd t tb r2 => q d x0 k0 v G2 H2 (hS d hd) (ext_tab hF e1 t) (y1.g.trans t.g) (slots_tab hF sl1 t tb) r2⟩
/-- [e, ..], a new list of changing things -/
theorem dlx_lst (h : DXs X F E es Ss) (hl : ∀ l, Ss l → l.length ≤ 100000) : PE X (.List es pos) (tXL X.K F E Ss) :=
  (pe_lst h).imp fun σ H Q ⟨x, k, G, ex, sl, q⟩ => ⟨x, k, G, ex, sl, fun ds x1 k1 vs G1 H1 s1 e1 g1 sl1 r1 => ⟨by rw [r1.length]; exact Nat.le_trans (hl ds s1) (by decide), fun p hp => by
    have t : Ext G1 H1 G1 (upd H1 p (.lst vs)) := Ext.heap e1.gh (Ex.new hp)
    exact q p vs ds x1 k1 G1 (upd H1 p (.lst vs)) s1 (e1.trans t) g1 (sl1.up t) (e1.h.back hp) (sl1.free hp) (e1.gh.back hp) upd_same r1⟩⟩
/-- y = a new list of changing things -/
theorem dsx_setL (he : PE X e (tXL X.K F E Ss)) (hr : ∀ ds, Ss ds → DSX X F (fun x k => (E x k).set i (.own ds)) rest N) (hN : X.N.Nodup) (hi : X.N[i]? = some y := by rfl) (hx : Loc X.env.scope y := by first | exact .inl rfl | exact .inr rfl)
    (hs : swapsWith e (some (.Name y pos')) pos.line X.env = pure false := by rfl) (hf : X.fn y = true ∨ X.env.scope.names.lookup y = some .local := by first | exact .inl rfl | exact .inr rfl | assumption) : DSX X F E (.Assign [.Name y pos'] e pos :: rest) N := fun x k =>
  (pss_cons (ps_set hN hi hx he hs hf) PSs.any).imp fun D σ H ⟨G, ex, sl, a⟩ => ⟨x, k, G, ex, sl, fun q vs ds x1 k1 G1 H1 s1 e1 g1 sl1 n al n1 hh r1 => ⟨_, hr ds s1 x1 k1, tS_up (D := D) e1 g1 (sl1.setO n n1 hh r1 al) a⟩⟩
/-- if, the test pure -/
theorem dsx_pure (h : ∀ x k, DS X F (E x k) rest N) : DSX X F E rest N := h
end
end DL
/-! W2: _law_told. -/
namespace LP
open PySem PySem.Spec PyProof.Rows L2 DL L2H LamX LQ
theorem told_gives {X : Cx} (T : Tx X.K X.mg) {CS g : Addr} {cdg : Value} {q : Str} {k : Nat} (hme : X.mg "PoolError" = some (.ref CS)) : GivesN X n__law_told "_law_told" (defScope s__law_told) g cdg (defBody s__law_told) "_law_deed" q (k + 1) (TTerm X.K X.mg CS) := by
  intro f c' s H Q tl hr act hc h
  refine ⟨_, pss_one (L2N.ps_try_as (X := (cxOf C8.CX0 X.prog X.w X.K X.mg X.base n__law_told "_law_told" (defScope s__law_told) g cdg X.A X.stack s H C8.E0).nox) (i := 1) (c := .ref CS) (Wout := fun _ _ _ _ => False)
    (tb := fun W D σ H => ∃ Ech : XK, (∀ cls d σ' H', Ech cls d H' → W cls d σ' H') ∧ σ[0]? = some (some (.ref f)) ∧ H c' = some (CodeO c' q) ∧ tl Ech H D.rt)
    (ts := fun a cls d D σ H => ∃ n Da, cls = .ref Da ∧ d = none ∧ IsK X.K X.mg n Da ∧ (∃ σ0 : L2.St, σ = σ0.set 1 (some (.ref a))) ∧ spTerm X.K a n [.ref a] H D.rt (fun _ _ _ => False))
    rfl rfl sc__law_told.nd rfl rfl ⟨rfl, by decide, .inl hme⟩ takesN0 (fun W pn xe tk _ => ⟨fun pins s' σ H' D I h' => ?_⟩) (fun a oe cls d pn hz hf => ⟨fun pins s' σ H' D I h' => ?_⟩)), ?_⟩
  · obtain ⟨Ech, hW, h1, h2, h3⟩ := h'
    exact (pss_one (ps_ret (act W pn xe Ech _ _ tk hW))).run pins s' σ H' D I ⟨h1, h2, h3⟩
  · obtain ⟨n, Da, rfl, rfl, IK, ⟨σ0, hs⟩, hsp⟩ := h'
    obtain ⟨ft, fdt, hmt, hkt, hbt, Ft⟩ := k_term (P := X.prog) (w := X.w) (base := X.base) (CX := L2N.CX X.prog X.w) (a := a) T IK hz.zc hf
    obtain ⟨vs, hvs⟩ := hf
    have hl : 1 < σ0.length := by
      have := I.len
      rw [hs, List.length_set] at this
      rw [this]
      show 1 < n__law_told.length
      decide
    have hs1 : σ[1]? = some (some (.ref a)) := by rw [hs]; exact List.getElem?_set_self hl
    have hrH : RoomH 1 (X.A.deeper (envOfC "_law_told" (defScope s__law_told) s.heap.objs.size g cdg)) := (roomH_of hr).mono (by omega)
    refine (pss_one (ps_ret (pe_callP (X := (cxOf C8.CX0 X.prog X.w X.K X.mg X.base n__law_told "_law_told" (defScope s__law_told) g cdg X.A X.stack s H C8.E0).nox.suite a ((a, oe) :: pn)) (x := "_law_term") (y := "_law_e") (i := 1) (p := (a, oe)) Ft ⟨hrH.dp, hrH.un⟩ ⟨rfl, vs, hvs, hz.2.2 vs hvs⟩ List.mem_cons_self rfl hmt hkt hbt passLN rfl (.inl rfl) (by decide) (by decide)))).run pins s' σ H' D I ⟨_, hs1, hsp⟩
  · refine ⟨_, fun cls d σ' H' ⟨n, Da, hcls, hd, IK, hex, G, eG, hq⟩ => ⟨true, hex, fun _ a _ => ⟨n, Da, hcls, hd, IK, ⟨_, rfl⟩, rfl, G, eG, hq⟩, fun hb => by cases hb⟩, rfl, hc, h⟩
theorem dx_told {X : Cx} {F : Fr0} {E : Fam} {S : D → Prop} {Tb : List (Addr × Str)} {c Pt CS : Addr} {k : Nat} {x : Str} {ps : List Str} {α : Type} {enc : α → List D} {pre : α → Prop} {res : α → Out} {e : Expr} {es : List Expr} {params : Arguments} {scope : Scope} {p1 p2 pos pos2 lpos : Pos}
    (T : Tx X.K X.mg) (hme : X.mg "PoolError" = some (.ref CS)) (hF : LamF F Tb) (hC : LamC X Tb c Pt) (Df : DefX X k x ps (spD X.K X.mg enc pre res)) (w : α) (hr : Room (k + 2) X.A) (L : LamS X.env.scope scope)
    (ha : ∀ (A : Around) (outer : List PySem.Env) (s : Shared) (H : Hp) (E9 : XK) (f c' : Addr) (x k : Int), DA (lamN X A outer s H E9 scope f c') F.H0 (E x k) (e :: es) (enc w)) (hp : pre w) (hS : S (told (res w))) (herr : ∀ n, res w = .err n → ∃ Da, IsK X.K X.mg n Da ∧ PySem.W.exmOne X.K (.ref Da) (.ref CS) = some true)
    (hg : Gl X "_law_told" := by rfl) (hgl : scope.names.lookup x = some .globalImplicit := by rfl) (hdef : defaultsOf params X.env = ([], []) := by rfl) (hbind : ∀ (q : Str) (cl : List (Str × Addr)) (pm cv ctv : Value), bindArgs (PySem.W.kla_fn "<lambda>" q params (.Call (.Name x p2) (e :: es) [] pos2) scope cl pm cv ctv) ⟨[], []⟩ = pure [] := by intros; rfl) (hdb : (x == ("__debug__" : Str)) = false := by decide)
    (he : ∀ (A : Around) (outer : List PySem.Env) (s : Shared) (H : Hp) (E9 : XK) (f c' : Addr), starEach (e :: es) (lamN X A outer s H E9 scope f c').env = (false, eval e (lamN X A outer s H E9 scope f c').env) :: starEach es (lamN X A outer s H E9 scope f c').env := by intros; rfl)
    (hpl : ∀ (A : Around) (outer : List PySem.Env) (s : Shared) (H : Hp) (E9 : XK) (f c' : Addr), (backTo pos2 (starEach es (lamN X A outer s H E9 scope f c').env)).any (·.1) = false := by intros; rfl) :
    DX X F E (.Call (.Name "_law_told" p1) [.Lambda params (.Call (.Name x p2) (e :: es) [] pos2) scope lpos] [] pos) S := by
  obtain ⟨g, fd, hm, FT, hb⟩ := T.d__law_told
  obtain ⟨oc, od, kV, doc, pm, an, cdv, ct, osl, rfl, lk, hcd⟩ := FT.ex
  refine (pe_lamN (Ng := n__law_told) (a := "_law_deed") (k := k) (T := Tb) (TT := TTerm X.K X.mg CS) (t := fun E9 σ H Q => ∃ x0 k0 G, Ex G H ∧ Slots X.K F.H0 G H σ (E x0 k0) ∧ (∀ d, res w = .ok d → ∀ v G2 H2, Ext G H G2 H2 → Dp X.K G2 v d → Q v H2) ∧ (∀ n, res w = .err n → ∀ C G2 H2, X.mg n = some (.ref C) → Ext G H G2 H2 → E9 (.ref C) none H2))
    hg hm FT.kp lk hcd hb sc__law_told rfl (.inl rfl) (told_gives T hme) hC.tb hC.code hC.mem hC.uniq hr L hdef hbind (fun A outer s H E9 f c' hr2 => ⟨fun pins s' σ H' Q I ⟨x0, k0, q⟩ => ?_⟩)).imp fun σ H Q ⟨x0, k0, G, ex, sl, q⟩ => ?_
  · have tk : TakesE (lamN X A outer s H E9 scope f c') ⟨F.H0, F.G0, E9⟩ := L2N.takes_of rfl rfl rfl rfl
    exact (pe_callX (X := lamN X A outer s H E9 scope f c') (F := ⟨F.H0, F.G0, E9⟩) (ρ := E x0 k0) Df w hr2 (ha A outer s H E9 f c' x0 k0) hp tk hgl hdb (he A outer s H E9 f c') (hpl A outer s H E9 f c')).run pins s' σ H' Q I q
  · have hT : Tabs Tb H := (hF.inv H).mp sl.inv
    refine ⟨hT, fun H1 eN T1 => ?_⟩
    have ng : ∀ b ps, G b ≠ some (.tbl ps) := fun b ps h => hF.g0 b ps (ex.nt b ps h)
    have eG : Ex G H1 := fun b o h => eN b o (ex.gh b o h) fun ps z => ng b ps (z ▸ h)
    have ex1 : Ext F.G0 F.H0.out G H1 := ⟨ex.g, fun b o h => eN b o (ex.h b o h) fun ps z => hF.out b ps (z ▸ h), eG, ex.nw, ex.nt⟩
    have sl1 : Slots X.K F.H0 G H1 σ (E x0 k0) := ⟨sl.len, sl.dat, fun i ds p0 h => by
      obtain ⟨p, vs, h1, h2, h3, h4, h5⟩ := sl.own i ds p0 h
      exact ⟨p, vs, h1, h2, h3, eN p _ h4 (fun ps z => by cases z), h5⟩, sl.apart, sl.pin, (hF.inv H1).mpr T1, sl.raw, sl.thg.to (fun _ _ h => ⟨h, rfl⟩) (fun _ ds p0 _ h1 h2 => .inl ⟨ds, p0, h1, h2⟩) fun _ t _ h => ⟨fun c hc => by
      obtain ⟨a1, a2, o, a3, a4⟩ := h.ok c hc
      exact ⟨a1, a2, o, eN _ _ a3 (fun ps z => by have := c.soft _ _ _ a4; rw [z] at this; exact this), a4⟩⟩⟩
    refine ⟨x0, k0, G, eG, sl1, fun d hd v G2 H2 y r => ?_, fun n hn C G2 H2 hmC y => ?_⟩
    · rw [hd] at hS
      exact q d x0 k0 v G2 H2 hS (ex1.trans y) y.g (sl1.up y) r
    · obtain ⟨Da, IK, hex⟩ := herr n hn
      have hDa : Da = C := by
        have := IK.has.symm.trans hmC
        cases this; rfl
      subst hDa
      rw [hn] at hS
      exact ⟨n, Da, rfl, rfl, IK, hex, G2, y.gh, fun v G3 H3 z r => q (refusedD n) x0 k0 v G3 H3 hS ((ex1.trans y).trans z) (y.g.trans z.g) ((sl1.up y).up z) r⟩
end LP
/-! W3: the dice. -/
namespace LP
open PySem PySem.Spec PyProof.Rows L2 DL L2H LamX LQ
def M1 : Int := 340282366920938463463374607431768211507
def M2 : Int := 340282366920938463463374607431768211297
def M3 : Int := 18446744073709551557
def drawnV (x k : Int) : Int :=
  let m := (x * 6364136223846793005 + (k + 1) * 1442695040888963407) % M1
  let m := m * m % M2
  ((m % M3 + 1) * (m / M3 + 1) * m) % M1
theorem od_mulW {X : Cx} {i j : Int} (h : CMulW i j) : OpD X (rI CMulW fun i j => .int (i * j)) (.int i) (.int j) (.int (i * j)) := fun x y G H Q e r1 r2 q => ⟨i, j, dp_int r1, dp_int r2, h, q _ G H (Ext.refl e) (.int _)⟩
theorem od_fdivW {X : Cx} {i j : Int} (h : CDivW i j) : OpD X (rI CDivW fun i j => .int (i / j)) (.int i) (.int j) (.int (i / j)) := fun x y G H Q e r1 r2 q => ⟨i, j, dp_int r1, dp_int r2, h, q _ G H (Ext.refl e) (.int _)⟩
theorem od_pow {X : Cx} {i j : Int} (h : CPow i j) : OpD X (rI CPow fun i j => .int (i ^ j.toNat)) (.int i) (.int j) (.int (i ^ j.toNat)) := fun x y G H Q e r1 r2 q => ⟨i, j, dp_int r1, dp_int r2, h, q _ G H (Ext.refl e) (.int _)⟩
theorem small_abs {i m : Int} {a : Nat} (h0 : 0 ≤ i) (h1 : i < m) (hm : m ≤ 2 ^ a) : i.natAbs < 2 ^ a := by
  have h2 : i < ((2 ^ a : Nat) : Int) := by rw [Int.natCast_pow]; exact Int.lt_of_lt_of_le h1 hm
  omega
section
variable {P : Program} {w : World} {K : PySem.W.Frag} {mg : Str → Option Value} {base : Heap}
abbrev spDrawn (K : PySem.W.Frag) (mg : Str → Option Value) : Sp := spD K mg (α := Int × Int) (fun a => [.int a.1, .int a.2]) (fun _ => True) (fun a => .ok (.int (drawnV a.1 a.2)))
theorem k_drawn (T : Tx K mg) : DefOk P w K mg base 1 "_law_drawn" p__law_drawn (spDrawn K mg) := by
  refine T.d__law_drawn.ok sc__law_drawn (fun _ => rfl) fun ⟨x, k⟩ _ f cdv A outer s H G E hr tk hp => ?_
  have nd := sc__law_drawn.nd
  refine ds_set (i := 2) (d := .int ((x * 6364136223846793005 + (k + 1) * 1442695040888963407) % M1)) (de_bin op_mod (od_mod (by decide)) (de_bin op_add od_add (de_bin op_mul (od_mul (.inr (by decide))) (v 0) de_int) (de_bin op_mul (od_mul (.inr (by decide))) (de_bin op_add od_add (v 1) de_int) de_int)) de_int) ?_ nd
  generalize hm : (x * 6364136223846793005 + (k + 1) * 1442695040888963407) % M1 = m
  have hm0 : 0 ≤ m := by rw [← hm]; exact Int.emod_nonneg _ (by decide)
  have hm1 : m < M1 := by rw [← hm]; exact Int.emod_lt_of_pos _ (by decide)
  have hma : m.natAbs < 2 ^ 129 := small_abs hm0 hm1 (by decide)
  refine ds_set (i := 2) (d := .int (m * m % M2)) (de_bin op_mod (od_mod (by decide)) (de_bin op_mulW (od_mulW (wide_mul hma hma (by decide) (by decide) (by decide))) (v 2) (v 2)) de_int) ?_ nd
  generalize hn : m * m % M2 = n
  have hn0 : 0 ≤ n := by rw [← hn]; exact Int.emod_nonneg _ (by decide)
  have hn1 : n < M2 := by rw [← hn]; exact Int.emod_lt_of_pos _ (by decide)
  have hna : n.natAbs < 2 ^ 128 := small_abs hn0 hn1 (by decide)
  have a1 : (n % M3 + 1).natAbs < 2 ^ 65 := by
    have h0 : 0 ≤ n % M3 := Int.emod_nonneg _ (by decide)
    have h1 : n % M3 < M3 := Int.emod_lt_of_pos _ (by decide)
    have : M3 = 18446744073709551557 := rfl
    have : (2 : Nat) ^ 65 = 36893488147419103232 := by decide
    omega
  have a2 : (n / M3 + 1).natAbs < 2 ^ 128 := by
    have h0 : 0 ≤ n / M3 := Int.ediv_nonneg hn0 (by decide)
    have h1 : n / M3 ≤ n := Int.ediv_le_self _ hn0
    have : M2 = 340282366920938463463374607431768211297 := rfl
    have : (2 : Nat) ^ 128 = 340282366920938463463374607431768211456 := by decide
    omega
  have a3 : ((n % M3 + 1) * (n / M3 + 1)).natAbs < 2 ^ (65 + 128) := wide_lt a1 a2
  refine ds_set (i := 2) (d := .int ((n % M3 + 1) * (n / M3 + 1) * n)) (de_bin op_mulW (od_mulW (wide_mul a3 hna (by decide) (by decide) (by decide))) (de_bin op_mulW (od_mulW (wide_mul a1 a2 (by decide) (by decide) (by decide))) (de_bin op_add od_add (de_bin op_mod (od_mod (by decide)) (v 2) de_int) de_int) (de_bin op_add od_add (de_bin op_fdivW (od_fdivW (wide_div (b := 65) (by decide) (by decide) (by decide) (by decide))) (v 2) de_int) de_int)) (v 2)) ?_ nd
  refine ds_ret (de_bin op_mod (od_mod (by decide)) (v 2) de_int) ?_
  show Out.ok _ = Out.ok _
  unfold drawnV
  simp only [hm, hn]
  rfl
/-- a roll: some number below many -/
abbrev resRoll (n : Nat) (d : D) : Prop := ∃ j : Nat, d = .int j ∧ j < n
abbrev spRoll (K : PySem.W.Frag) (mg : Str → Option Value) : Sp := spDice K mg (α := Nat) (fun n => [.int n]) (fun n => 0 < n ∧ n ≤ 1000) resRoll
theorem roll_mod {x : Int} {n : Nat} (h : 0 < n) : resRoll n (.int (x % (n : Int))) := by
  have h0 : 0 ≤ x % (n : Int) := Int.emod_nonneg _ (by omega)
  have h1 : x % (n : Int) < n := Int.emod_lt_of_pos _ (by omega)
  exact ⟨(x % (n : Int)).toNat, by rw [Int.toNat_of_nonneg h0], by omega⟩
theorem k_roll (T : Tx K mg) : DefOk P w K mg base 2 "_law_roll" p__law_roll (spRoll K mg) := by
  refine T.d__law_roll.okD sc__law_roll (fun _ => rfl) fun n ⟨hn0, hn1⟩ f cdv A outer s H G p E hr tk hp => fun x k => ?_
  have bt := T.bt
  have nd := sc__law_roll.nd
  have kD := k_drawn (P := P) (w := w) (base := base) T
  have hnI : (0 : Int) < (n : Int) := by omega
  refine ds_ifRet (dt_cmp op_ge od_ge (de_ixR (d := .int x) atI_zero (vo 0) de_int) (de_bin op_pow (od_pow ⟨by decide, by decide, by decide⟩) de_int de_int)) (fun _ => ?_) fun _ => ?_
  · refine ds_set (i := 2) (de_bin op_mod (od_mod hnI) (de_ixR (d := .int x) atI_zero (vo 0) de_int) (v 1)) ?_ nd
    refine ds_setIx (i := 0) (n := 0) (ds := [.int x, .int k]) rfl (de_bin op_fdiv (od_fdiv ⟨hnI, by omega⟩) (de_ixR (d := .int x) atI_zero (vo 0) de_int) (v 1)) de_int (Nat.le_of_ble_eq_true rfl) ?_
    exact ds_ret (v 2) ⟨roll_mod hn0, _, _, rfl⟩
  · refine ds_setIx (i := 0) (n := 1) (ds := [.int x, .int k]) rfl (de_bin op_add od_add (de_ixR (d := .int k) (atI_nat (xs := [PyData.int x, .int k]) (i := 1) (Nat.le_of_ble_eq_true rfl)) (vo 0) de_int) de_int) de_int (Nat.le_of_ble_eq_true rfl) ?_
    refine ds_ret (de_bin op_mod (od_mod hnI) (de_bin op_fdiv (od_fdiv ⟨by decide, by decide⟩) (de_call kD (x, k + 1) hr (da_cons (de_ixR (d := .int x) atI_zero (vo 0) de_int) (da_cons (de_ixR (d := .int (k + 1)) (atI_nat (xs := [PyData.int x, .int (k + 1)]) (i := 1) (Nat.le_of_ble_eq_true rfl)) (vo 0) de_int) da_nil)) trivial rfl rfl) de_int) (v 1)) ⟨roll_mod hn0, _, _, rfl⟩
end
end LP
/-! P1: plain: order, sorting, shores, what is joined at a height, lots. -/
namespace LP
open PySem PySem.Spec PyProof.Rows L2 DL
/-! ### the order of typed data -/
section
variable {α : Type} [DecidableEq α] [PySem.W.DatumOrd α]
def tlt (a b : α) : Bool := PySem.W.dataLt (toD a) (toD b)
theorem tlt_irrefl (a : α) : tlt a a = false := PySem.W.dataLt_self _
theorem tlt_trans {a b c : α} (h1 : tlt a b = true) (h2 : tlt b c = true) : tlt a c = true := (PyProof.Rows.listOrd itemOrd).trans _ _ _ h1 h2
theorem tlt_anti {a b : α} (h1 : tlt a b = false) (h2 : tlt b a = false) : a = b := by
  have e : PySem.W.keyToks (toD a) = PySem.W.keyToks (toD b) := (PyProof.Rows.listOrd itemOrd).total _ _ h1 h2
  cases q : PyData.eqv (toD a) (toD b) with
  | true => rw [PySem.W.Datum.eqv, decide_eq_true_eq] at q; exact q
  | false =>
    have t := (PySem.W.toks_eqv (toD a) (toD b) (PySem.W.DatumOrd.alike a b)).2 q
    have t1 := t [] [Sum.inl 0]
    have t2 := t [Sum.inl 0] []
    rw [← e] at t1 t2
    rw [PySem.W.lex_pre] at t1 t2
    rw [← t2] at t1
    exact absurd t1 (by decide +kernel)
theorem tlt_asymm {a b : α} (h1 : tlt a b = true) : tlt b a = false := by
  cases q : tlt b a with
  | true => have := tlt_trans h1 q; rw [tlt_irrefl] at this; cases this
  | false => rfl
theorem tlt_tri (a b : α) : tlt a b = true ∨ a = b ∨ tlt b a = true := by
  cases q : tlt a b with
  | true => exact .inl rfl
  | false => cases r : tlt b a with
    | true => exact .inr (.inr rfl)
    | false => exact .inr (.inl (tlt_anti q r))
/-- sorted(xs) -/
def tsort (xs : List α) : List α := xs.mergeSort (PySem.W.dataLe false toD)
theorem dsort_ty (xs : List α) : DL.dsort (xs.map toD) = (tsort xs).map toD := (PySem.W.sort_maps (toD (α := α)) (r := PySem.W.dataLe false toD) (s := PySem.W.dataLe false id) fun _ _ _ _ => rfl).symm
theorem tsort_perm (xs : List α) : (tsort xs).Perm xs := List.mergeSort_perm _ _
theorem tsort_mem {xs : List α} {a : α} : a ∈ tsort xs ↔ a ∈ xs := (tsort_perm xs).mem_iff
theorem tsort_pw (xs : List α) : (tsort xs).Pairwise fun a b => tlt b a = false := by
  have h := PySem.W.sort_pairwise (PySem.W.sortLe_total (PyProof.Rows.listOrd itemOrd) false fun b : α => PySem.W.keyToks (toD b)) xs
  exact h.imp fun {a b} q => by
    have : (!tlt b a) = true := q
    rwa [Bool.not_eq_true'] at this
theorem pw_nodup {xs : List α} (h : xs.Pairwise fun a b => tlt a b = true) : xs.Nodup := h.imp fun {a b} q e => by subst e; rw [tlt_irrefl] at q; cases q
/-- what is in order already, with the same members once each, is what sorted gives -/
theorem tsort_eq {xs ys : List α} (hx : xs.Nodup) (hy : ys.Pairwise fun a b => tlt a b = true) (hm : ∀ a, a ∈ xs ↔ a ∈ ys) : tsort xs = ys := by
  have p : (tsort xs).Perm ys := (tsort_perm xs).trans ((List.perm_ext_iff_of_nodup hx (pw_nodup hy)).mpr hm)
  exact p.eq_of_pairwise (le := fun a b => tlt b a = false) (fun a b _ _ h1 h2 => tlt_anti h2 h1) (tsort_pw xs) (hy.imp fun {a b} q => tlt_asymm q)
theorem tsort_strict {xs : List α} (hx : xs.Nodup) : (tsort xs).Pairwise fun a b => tlt a b = true := by
  have h1 := tsort_pw xs
  have h2 : (tsort xs).Nodup := (tsort_perm xs).nodup_iff.mpr hx
  refine (h1.and h2).imp fun {a b} ⟨p, q⟩ => ?_
  rcases tlt_tri a b with h | h | h
  · exact h
  · exact absurd h q
  · rw [h] at p; cases p
/-- two lists in order with the same members are the same -/
theorem pw_ext {xs ys : List α} (hx : xs.Pairwise fun a b => tlt a b = true) (hy : ys.Pairwise fun a b => tlt a b = true) (hm : ∀ a, a ∈ xs ↔ a ∈ ys) : xs = ys :=
  ((List.perm_ext_iff_of_nodup (pw_nodup hx) (pw_nodup hy)).mpr hm).eq_of_pairwise (le := fun a b => tlt b a = false) (fun a b _ _ h1 h2 => tlt_anti h2 h1) (hx.imp fun {a b} q => tlt_asymm q) (hy.imp fun {a b} q => tlt_asymm q)
end
theorem nodup_len {α : Type} [DecidableEq α] : ∀ {xs ys : List α}, xs.Nodup → (∀ a ∈ xs, a ∈ ys) → xs.length ≤ ys.length
  | [], _, _, _ => Nat.zero_le _
  | x :: xs, ys, h, hm => by
    rw [List.nodup_cons] at h
    have hx : x ∈ ys := hm x List.mem_cons_self
    have := nodup_len (ys := ys.erase x) h.2 fun a ha => by
      have hne : a ≠ x := fun e => h.1 (e ▸ ha)
      exact (List.mem_erase_of_ne hne).mpr (hm a (List.mem_cons_of_mem _ ha))
    rw [List.length_erase_of_mem hx] at this
    have : 0 < ys.length := List.length_pos_of_mem hx
    rw [List.length_cons]; omega
theorem strs_toD (l : List Str) : l.map PyData.str = l.map toD := rfl
/-! ### shores -/
abbrev Rg := Str × Str × Int
abbrev Sh := List Str × List Rg
def rgT (r : Rg) : D := .tuple [.str r.1, .str r.2.1, .int r.2.2]
def shT (s : Sh) : D := .tuple [strsD s.1, .tuple (s.2.map rgT)]
structure Good (s : Sh) : Prop where
  two : 2 ≤ s.1.length
  six : s.1.length ≤ 6
  up : s.1.Pairwise fun a b => tlt a b = true
  ten : s.2.length ≤ 10
  ends : ∀ r ∈ s.2, r.1 ∈ s.1 ∧ r.2.1 ∈ s.1
/-- joined at a height -/
inductive Conn (s : Sh) (h : Int) : Str → Str → Prop
  | refl (p : Str) : Conn s h p p
  | fwd {p a b : Str} {c : Int} : Conn s h p a → (a, b, c) ∈ s.2 → c ≤ h → Conn s h p b
  | bwd {p a b : Str} {c : Int} : Conn s h p b → (a, b, c) ∈ s.2 → c ≤ h → Conn s h p a
section
variable {s : Sh} {h : Int} {p q r : Str}
theorem Conn.trans (a : Conn s h p q) (b : Conn s h q r) : Conn s h p r := by
  induction b with
  | refl => exact a
  | fwd _ e c ih => exact .fwd ih e c
  | bwd _ e c ih => exact .bwd ih e c
theorem Conn.symm (a : Conn s h p q) : Conn s h q p := by
  induction a with
  | refl => exact .refl _
  | fwd _ e c ih => exact (Conn.bwd (.refl _) e c).trans ih
  | bwd _ e c ih => exact (Conn.fwd (.refl _) e c).trans ih
theorem Conn.mem (g : Good s) (a : Conn s h p q) (hp : p ∈ s.1) : q ∈ s.1 := by
  induction a with
  | refl => exact hp
  | fwd _ e _ _ => exact (g.ends _ e).2
  | bwd _ e _ _ => exact (g.ends _ e).1
theorem Conn.mono {h' : Int} (hh : h ≤ h') (a : Conn s h p q) : Conn s h' p q := by
  induction a with
  | refl => exact .refl _
  | fwd _ e c ih => exact .fwd ih e (Int.le_trans c hh)
  | bwd _ e c ih => exact .bwd ih e (Int.le_trans c hh)
/-- a set with p that no ridge leaves holds all that is joined to p -/
theorem Conn.closed {S : Str → Prop} (hp : S p) (hc : ∀ a b c, (a, b, c) ∈ s.2 → c ≤ h → (S a ↔ S b)) (a : Conn s h p q) : S q := by
  induction a with
  | refl => exact hp
  | fwd _ e c ih => exact (hc _ _ _ e c).mp ih
  | bwd _ e c ih => exact (hc _ _ _ e c).mpr ih
end
open Classical in
/-- the lot of a pool -/
noncomputable def lotOf (s : Sh) (h : Int) (p : Str) : List Str := s.1.filter fun q => decide (Conn s h p q)
section
variable {s : Sh} {h : Int} {p q r : Str}
open Classical in
theorem mem_lotOf : q ∈ lotOf s h p ↔ q ∈ s.1 ∧ Conn s h p q := by
  unfold lotOf
  rw [List.mem_filter, decide_eq_true_eq]
theorem mem_lotOf' (g : Good s) (hp : p ∈ s.1) : q ∈ lotOf s h p ↔ Conn s h p q := by
  rw [mem_lotOf]
  exact ⟨fun h => h.2, fun h => ⟨h.mem g hp, h⟩⟩
theorem lotOf_up (g : Good s) : (lotOf s h p).Pairwise fun a b => tlt a b = true := g.up.sublist List.filter_sublist
open Classical in
theorem lotOf_eq (c : Conn s h p q) : lotOf s h p = lotOf s h q := by
  unfold lotOf
  refine List.filter_congr fun x _ => ?_
  exact decide_eq_decide.mpr ⟨fun e => c.symm.trans e, fun e => c.trans e⟩
/-- a lot from what the search found -/
theorem lot_sorted (g : Good s) (hp : p ∈ s.1) {lot : List Str} (hn : lot.Nodup) (h0 : p ∈ lot) (h1 : ∀ a ∈ lot, Conn s h p a) (h2 : ∀ a b c, (a, b, c) ∈ s.2 → c ≤ h → (a ∈ lot ↔ b ∈ lot)) : tsort lot = lotOf s h p :=
  tsort_eq hn (lotOf_up g) fun a => by
    rw [mem_lotOf' g hp]
    exact ⟨h1 a, fun c => c.closed (S := fun x => x ∈ lot) h0 h2⟩
/-! ### all lots, as the search finds them -/
end
noncomputable def lotsFrom (s : Sh) (h : Int) : Nat → List Str → List (List Str)
  | 0, _ => []
  | _ + 1, [] => []
  | n + 1, p :: left => lotOf s h p :: lotsFrom s h n ((p :: left).filter fun q => decide (q ∉ lotOf s h p))
/-- rows of texts, as tuples -/
abbrev TS := PySem.W.Tup Str
def rows (ls : List (List Str)) : List TS := ls.map fun l => ⟨l⟩
noncomputable def allLots (s : Sh) (h : Int) : List TS := tsort (rows (lotsFrom s h s.1.length s.1))
section
variable {s : Sh} {h : Int} {p q r : Str}
theorem left_less (g : Good s) {left : List Str} (hl : ∀ a ∈ p :: left, a ∈ s.1) : ((p :: left).filter fun q => decide (q ∉ lotOf s h p)).length ≤ left.length := by
  have hp : p ∈ lotOf s h p := mem_lotOf.mpr ⟨hl p List.mem_cons_self, .refl p⟩
  rw [List.filter_cons_of_neg (by rw [decide_eq_true_eq]; exact fun h => h hp)]
  exact List.length_filter_le _ _
theorem mem_lotsFrom (g : Good s) : ∀ (n : Nat) (left : List Str), left.length ≤ n → (∀ a ∈ left, a ∈ s.1) → ∀ l, l ∈ lotsFrom s h n left ↔ ∃ p ∈ left, l = lotOf s h p
  | 0, left, hn, _, l => by
    have : left = [] := List.length_eq_zero_iff.mp (by omega)
    subst this
    simp [lotsFrom]
  | n + 1, [], _, _, l => by simp [lotsFrom]
  | n + 1, p :: left, hn, hl, l => by
    have ih := mem_lotsFrom g n ((p :: left).filter fun q => decide (q ∉ lotOf s h p)) (Nat.le_trans (left_less g hl) (by rw [List.length_cons] at hn; omega)) (fun a ha => hl a (List.mem_filter.mp ha).1) l
    rw [lotsFrom, List.mem_cons, ih]
    constructor
    · rintro (e | ⟨q, hq, e⟩)
      · exact ⟨p, List.mem_cons_self, e⟩
      · exact ⟨q, (List.mem_filter.mp hq).1, e⟩
    · rintro ⟨q, hq, e⟩
      by_cases c : q ∈ lotOf s h p
      · exact .inl (e.trans (lotOf_eq (mem_lotOf.mp c).2).symm)
      · exact .inr ⟨q, List.mem_filter.mpr ⟨hq, by rw [decide_eq_true_eq]; exact c⟩, e⟩
theorem nodup_lotsFrom (g : Good s) : ∀ (n : Nat) (left : List Str), left.length ≤ n → (∀ a ∈ left, a ∈ s.1) → (lotsFrom s h n left).Nodup
  | 0, _, _, _ => by rw [lotsFrom]; exact List.nodup_nil
  | n + 1, [], _, _ => by rw [lotsFrom]; exact List.nodup_nil
  | n + 1, p :: left, hn, hl => by
    have hk := Nat.le_trans (left_less (h := h) g hl) (by rw [List.length_cons] at hn; omega : left.length ≤ n)
    have hs : ∀ a ∈ ((p :: left).filter fun q => decide (q ∉ lotOf s h p)), a ∈ s.1 := fun a ha => hl a (List.mem_filter.mp ha).1
    rw [lotsFrom, List.nodup_cons]
    refine ⟨fun m => ?_, nodup_lotsFrom g n _ hk hs⟩
    obtain ⟨q, hq, e⟩ := (mem_lotsFrom g n _ hk hs _).mp m
    have := (List.mem_filter.mp hq).2
    rw [decide_eq_true_eq, e] at this
    exact this (mem_lotOf.mpr ⟨hs q hq, .refl q⟩)
theorem mem_allLots (g : Good s) {l : TS} : l ∈ allLots s h ↔ ∃ p ∈ s.1, l = ⟨lotOf s h p⟩ := by
  unfold allLots rows
  rw [tsort_mem, List.mem_map]
  constructor
  · rintro ⟨x, hx, rfl⟩
    obtain ⟨p, hp, rfl⟩ := (mem_lotsFrom g _ _ (Nat.le_refl _) (fun _ h => h) _).mp hx
    exact ⟨p, hp, rfl⟩
  · rintro ⟨p, hp, rfl⟩
    exact ⟨_, (mem_lotsFrom g _ _ (Nat.le_refl _) (fun _ h => h) _).mpr ⟨p, hp, rfl⟩, rfl⟩
theorem allLots_up (g : Good s) : (allLots s h).Pairwise fun a b => tlt a b = true := by
  refine tsort_strict ?_
  have := nodup_lotsFrom (h := h) g _ _ (Nat.le_refl s.1.length) (fun _ h => h)
  unfold rows
  exact List.Pairwise.map _ (fun a b q e => q (PySem.W.Tup.mk.inj e)) this
/-- the lots are all rows in order whose members are the pools' lots -/
theorem allLots_eq (g : Good s) {L : List TS} (hu : L.Pairwise fun a b => tlt a b = true) (hm : ∀ l, l ∈ L ↔ ∃ p ∈ s.1, l = ⟨lotOf s h p⟩) : allLots s h = L :=
  pw_ext (allLots_up g) hu fun l => by rw [mem_allLots g, hm]
end
end LP
/-! S1: what a shore is: is_whole .. need_height. -/
namespace LP
open PySem PySem.Spec PyProof.Rows L2 DL
/-! ### plain -/
def isWholeD (d : D) (lo hi : Int) : Bool := match d with | .int n => decide (lo ≤ n) && decide (n ≤ hi) | _ => false
def small : Str := "abcdefghijklmnopqrstuvwxyz"
def isWordD (d : D) : Bool := match d with | .str z => decide ((1 : Int) ≤ z.length) && decide ((z.length : Int) ≤ 8) && z.cps.toList.all (fun c => decide (c ∈ small.cps.toList)) | _ => false
def riseD (ds : List D) : Bool := (List.zipWith PySem.W.dataLt ds (ds.drop 1)).all id
def isPoolD (ps : List Str) (d : D) : Bool := match d with | .str z => decide (z ∈ ps) | _ => false
def ltD (a b : D) : Bool := match a, b with | .str x, .str y => decide (x.cps.toList < y.cps.toList) | _, _ => false
def isRidgeD (ps : List Str) (d : D) : Bool := match d with | .tuple [a, b, c] => isWholeD c 1 9 && (isPoolD ps a && (isPoolD ps b && ltD a b)) | _ => false
theorem any_str (ps : List Str) (z : Str) : ((ps.map PyData.str).any fun d => PyData.eqv d (.str z)) = decide (z ∈ ps) := PySem.W.any_datum ps z
theorem plainAll_strs (ps : List Str) : PyData.plainAll (ps.map .str) = true := PySem.W.plainAll_map ps
theorem depthAll_strs (ps : List Str) : PyData.depthAll (ps.map .str) ≤ 50 := Nat.le_trans (PySem.W.depthAll_map ps) (by decide)
theorem plainAll_ints (ps : List Int) : PyData.plainAll (ps.map .int) = true := PySem.W.plainAll_map ps
theorem depthAll_ints (ps : List Int) : PyData.depthAll (ps.map .int) ≤ 50 := Nat.le_trans (PySem.W.depthAll_map ps) (by decide)
theorem tuple_of {d : D} (h : d.isTuple = true) : ∃ xs, d = .tuple xs := by
  cases d with
  | tuple xs => exact ⟨xs, rfl⟩
  | _ => cases h
section
variable {P : Program} {w : World} {K : PySem.W.Frag} {mg : Str → Option Value} {base : Heap}
abbrev spWhole (K : PySem.W.Frag) (mg : Str → Option Value) : Sp := spD K mg (α := D × Int × Int) (fun a => [a.1, .int a.2.1, .int a.2.2]) (fun _ => True) (fun a => .ok (.bool (isWholeD a.1 a.2.1 a.2.2)))
theorem k_is_whole (T : Tx K mg) : DefOk P w K mg base 1 "is_whole" p_is_whole (spWhole K mg) := by
  refine T.d_is_whole.ok sc_is_whole (fun _ => rfl) fun ⟨d, lo, hi⟩ _ f cdv A outer s H G E hr tk hp => ?_
  have bt := T.bt
  cases d with
  | int n => exact ds_ret (de_and (isInt bt (v 0)) fun _ => de_and (de_not (isBool bt (v 0))) fun _ => de_one (de_chain op_le op_le od_le (fun _ => od_le) (v 1) (v 0) fun _ => v 2)) (by rfl)
  | bool b => exact ds_ret (de_and (isInt bt (v 0)) fun _ => de_and (q := false) (de_not (isBool bt (v 0))) fun h => by cases h) (by rfl)
  | none => exact ds_ret (de_and (q := false) (isInt bt (v 0)) fun h => by cases h) (by rfl)
  | str z => exact ds_ret (de_and (q := false) (isInt bt (v 0)) fun h => by cases h) (by rfl)
  | list z => exact ds_ret (de_and (q := false) (isInt bt (v 0)) fun h => by cases h) (by rfl)
  | tuple z => exact ds_ret (de_and (q := false) (isInt bt (v 0)) fun h => by cases h) (by rfl)
  | dict z => exact ds_ret (de_and (q := false) (isInt bt (v 0)) fun h => by cases h) (by rfl)
abbrev spWord (K : PySem.W.Frag) (mg : Str → Option Value) : Sp := spD K mg (α := D) (fun a => [a]) (fun d => ∀ z, d = .str z → z.length ≤ 100000) (fun d => .ok (.bool (isWordD d)))
theorem k_is_word (T : Tx K mg) : DefOk P w K mg base 1 "is_word" p_is_word (spWord K mg) := by
  refine T.d_is_word.ok sc_is_word (fun _ => rfl) fun d hz f cdv A outer s H G E hr tk hp => ?_
  have bt := T.bt
  obtain ⟨ts, mS⟩ := T.c_SMALL
  cases d with
  | str z =>
    have hz1 := hz z rfl
    have hz2 : z.length ≤ sizeLine := Nat.le_trans hz1 (by decide)
    refine ds_ret (de_and (isStr bt (v 0)) fun _ => de_and (de_chain op_le op_le od_le (fun _ => od_le) de_int (lenS bt hz2 (v 0)) fun _ => de_int) fun _ => de_one (allR (bs := z.cps.toList.map fun c => decide (c ∈ small.cps.toList)) bt rfl (dr_to (dl_r (dl_map (own := [("sign", 1)]) (fun c => .bool (decide (c ∈ small.cps.toList))) rfl sc_is_word.nd (di_str (v 0)) (blkOk_by (N := n_is_word) (sc := defScope s_is_word) (by decide +kernel)) ?_ fun c hc => ?_)) ?_))) ?_
    · show z.cps.toList.length ≤ 100000
      rw [Array.length_toList]; exact hz1
    · exact ⟨_, _, fun j h => h, fun s H C cl fp => ⟨dg_name sc_is_word.nd, dts_nil, fun _ => de_cmp op_in_sign od_inSign (v 1) (de_globS rfl mS) rfl⟩⟩
    · rw [List.map_map]; rfl
    · show Out.ok _ = Out.ok _
      simp only [isWordD, PyData.isStr, Bool.true_and, List.all_map, Function.comp_def, id]
  | int n => exact ds_ret (de_and (q := false) (isStr bt (v 0)) fun h => by cases h) (by rfl)
  | bool b => exact ds_ret (de_and (q := false) (isStr bt (v 0)) fun h => by cases h) (by rfl)
  | none => exact ds_ret (de_and (q := false) (isStr bt (v 0)) fun h => by cases h) (by rfl)
  | list z => exact ds_ret (de_and (q := false) (isStr bt (v 0)) fun h => by cases h) (by rfl)
  | tuple z => exact ds_ret (de_and (q := false) (isStr bt (v 0)) fun h => by cases h) (by rfl)
  | dict z => exact ds_ret (de_and (q := false) (isStr bt (v 0)) fun h => by cases h) (by rfl)
abbrev spPool (K : PySem.W.Frag) (mg : Str → Option Value) : Sp := spD K mg (α := List Str × D) (fun a => [strsD a.1, a.2]) (fun _ => True) (fun a => .ok (.bool (isPoolD a.1 a.2)))
theorem k_is_pool (T : Tx K mg) : DefOk P w K mg base 1 "is_pool" p_is_pool (spPool K mg) := by
  refine T.d_is_pool.ok sc_is_pool (fun _ => rfl) fun ⟨ps, d⟩ _ f cdv A outer s H G E hr tk hp => ?_
  have bt := T.bt
  cases d with
  | str z =>
    refine ds_ret (de_and (isStr bt (v 1)) fun _ => de_one (de_cmp (op_inP hr.units) (od_inP (plainAll_strs ps) rfl (.inl (depthAll_strs ps))) (v 1) (v 0) rfl)) ?_
    show Out.ok _ = Out.ok _
    simp only [isPoolD, PyData.isStr, Bool.true_and, Bool.false_eq_true, if_false, any_str]
  | int n => exact ds_ret (de_and (q := false) (isStr bt (v 1)) fun h => by cases h) (by rfl)
  | bool b => exact ds_ret (de_and (q := false) (isStr bt (v 1)) fun h => by cases h) (by rfl)
  | none => exact ds_ret (de_and (q := false) (isStr bt (v 1)) fun h => by cases h) (by rfl)
  | list z => exact ds_ret (de_and (q := false) (isStr bt (v 1)) fun h => by cases h) (by rfl)
  | tuple z => exact ds_ret (de_and (q := false) (isStr bt (v 1)) fun h => by cases h) (by rfl)
  | dict z => exact ds_ret (de_and (q := false) (isStr bt (v 1)) fun h => by cases h) (by rfl)
/-- rise of a tuple, of a list -/
abbrev spRise (K : PySem.W.Frag) (mg : Str → Option Value) : Sp := spD K mg (α := Bool × List D) (fun a => [if a.1 then .tuple a.2 else .list a.2]) (fun a => PySem.W.AllAlike a.2 ∧ (∀ d ∈ a.2, d ≠ .none ∧ d.depth ≤ 50) ∧ a.2.length ≤ 100000) (fun a => .ok (.bool (riseD a.2)))
theorem k_rise (T : Tx K mg) : DefOk P w K mg base 1 "rise" p_rise (spRise K mg) := by
  refine T.d_rise.ok sc_rise (fun _ => rfl) fun ⟨tp, ds⟩ ⟨hal, hnd, hz⟩ f cdv A outer s H G E hr tk hp => ?_
  have bt := T.bt
  have turn : ∀ z ∈ ds.zip (ds.drop 1), PySem.W.alike z.1 z.2 = true ∧ z.1 ≠ .none ∧ z.1.depth ≤ 50 := fun z hzz => by
    have h1 : z.1 ∈ ds := (List.of_mem_zip hzz).1
    have h2 : z.2 ∈ ds := List.mem_of_mem_drop (List.of_mem_zip hzz).2
    exact ⟨hal _ h1 _ h2, (hnd _ h1).1, (hnd _ h1).2⟩
  have hlen : (ds.zip (ds.drop 1)).length ≤ 100000 := Nat.le_trans (by rw [List.length_zip]; exact Nat.min_le_left _ _) hz
  have fin : ∀ b : List Bool, b = (ds.zip (ds.drop 1)).map (fun z => PySem.W.dataLt z.1 z.2) → Out.ok (.bool (riseD ds)) = Out.ok (.bool (b.all id)) := fun b hb => by
    show Out.ok _ = Out.ok _
    rw [hb, riseD, List.zip_eq_zipWith, List.map_zipWith]
  cases tp with
  | true =>
    refine ds_ret (allR (bs := (ds.zip (ds.drop 1)).map fun z => PySem.W.dataLt z.1 z.2) bt rfl (dr_to (dl_r (dl_map (xs := ds.zip (ds.drop 1)) (enc := fun z => .tuple [z.1, z.2]) (own := [("one", 1), ("other", 2)]) (fun z => .bool (PySem.W.dataLt z.1 z.2)) rfl sc_rise.nd ?_ (blkOk_by (N := n_rise) (sc := defScope s_rise) (by decide +kernel)) hlen fun z hzz => ?_)) ?_)) (fin _ rfl)
    · exact di_to (zipT bt (v 0) (de_slT (v 0) (do_some de_int) do_none)) (by rw [cut1, zipWith_map])
    · exact ⟨_, _, fun j h => h, fun s H C cl fp => ⟨dg_tup rfl (dgs_cons (dg_name sc_rise.nd) (dgs_cons (dg_name sc_rise.nd) dgs_nil)), dts_nil, fun _ => de_cmp (op_ltP hr.units) (od_ltP (turn z hzz).1 (turn z hzz).2.1 (.inl (turn z hzz).2.2)) (v 1) (v 2)⟩⟩
    · rw [List.map_map]; rfl
  | false =>
    refine ds_ret (allR (bs := (ds.zip (ds.drop 1)).map fun z => PySem.W.dataLt z.1 z.2) bt rfl (dr_to (dl_r (dl_map (xs := ds.zip (ds.drop 1)) (enc := fun z => .tuple [z.1, z.2]) (own := [("one", 1), ("other", 2)]) (fun z => .bool (PySem.W.dataLt z.1 z.2)) rfl sc_rise.nd ?_ (blkOk_by (N := n_rise) (sc := defScope s_rise) (by decide +kernel)) hlen fun z hzz => ?_)) ?_)) (fin _ rfl)
    · exact di_to (zipL bt (v 0) (dl_e (dl_slR (de_r (v 0)) (do_some de_int) do_none))) (by rw [cut1, zipWith_map])
    · exact ⟨_, _, fun j h => h, fun s H C cl fp => ⟨dg_tup rfl (dgs_cons (dg_name sc_rise.nd) (dgs_cons (dg_name sc_rise.nd) dgs_nil)), dts_nil, fun _ => de_cmp (op_ltP hr.units) (od_ltP (turn z hzz).1 (turn z hzz).2.1 (.inl (turn z hzz).2.2)) (v 1) (v 2)⟩⟩
    · rw [List.map_map]; rfl
end
end LP
/-! S2: ridges, shores, counts. -/
namespace LP
open PySem PySem.Spec PyProof.Rows L2 DL
def strsOf (ps : List D) : List Str := ps.filterMap fun | .str z => some z | _ => none
theorem strsOf_map (ps : List Str) : strsOf (ps.map .str) = ps := by
  unfold strsOf
  rw [List.filterMap_map]
  exact List.filterMap_some
def cut2 : D → D
  | .tuple xs => .tuple (xs.take 2)
  | d => d
def isShoreD : D → Bool
  | .tuple [.tuple ps, r] => decide ((2 : Int) ≤ ps.length) && decide ((ps.length : Int) ≤ 6) && ps.all isWordD && riseD ps && (match r with | .tuple rs => decide (rs.length ≤ 10) && rs.all (isRidgeD (strsOf ps)) && riseD (rs.map cut2) | _ => false)
  | _ => false
section
variable {P : Program} {w : World} {K : PySem.W.Frag} {mg : Str → Option Value} {base : Heap}
abbrev spRidge (K : PySem.W.Frag) (mg : Str → Option Value) : Sp := spD K mg (α := List Str × D) (fun a => [strsD a.1, a.2]) (fun _ => True) (fun a => .ok (.bool (isRidgeD a.1 a.2)))
theorem k_is_ridge (T : Tx K mg) : DefOk P w K mg base 2 "is_ridge" p_is_ridge (spRidge K mg) := by
  refine T.d_is_ridge.ok sc_is_ridge (fun _ => rfl) fun ⟨ps, d⟩ _ f cdv A outer s H G E hr tk hp => ?_
  have bt := T.bt
  obtain ⟨t9, m9⟩ := T.c_HIGHEST
  have kW := k_is_whole (P := P) (w := w) (base := base) T
  have kP := k_is_pool (P := P) (w := w) (base := base) T
  cases d with
  | tuple xs =>
    have bad : xs.length ≠ 3 → isRidgeD ps (.tuple xs) = false := fun h => by
      unfold isRidgeD
      split
      · next heq => cases heq; exact absurd rfl h
      · rfl
    by_cases h3 : xs.length = 3
    · obtain ⟨a, b, c, rfl⟩ : ∃ a b c, xs = [a, b, c] := by
        match xs, h3 with | [a, b, c], _ => exact ⟨a, b, c, rfl⟩
      refine ds_ifRet (p := !isWholeD c 1 9) (dt_to (dt_w (dw_or (dt_not (dt_val (isTuple bt (v 1)))) fun _ => dw_or (neI hr (lenT bt (v 1)) de_int) fun _ => dw_or1 (dt_not (dt_val (de_call kW (c, 1, 9) hr (da_cons (de_ix ix_tup (od_ixT rfl) (v 1) de_int) (da_cons de_int (da_cons (de_glob rfl m9) da_nil))) trivial rfl rfl))))) ?_) (fun h => ds_ret de_bl ?_) fun h => ?_
      · rfl
      · show Out.ok _ = Out.ok _
        rw [Bool.not_eq_true'] at h
        simp only [isRidgeD, h, Bool.false_and]
      · rw [Bool.not_eq_false'] at h
        refine ds_ret (de_and (de_call kP (ps, a) hr (da_cons (v 0) (da_cons (de_ix ix_tup (od_ixT rfl) (v 1) de_int) da_nil)) trivial rfl rfl) fun pa => de_and (de_call kP (ps, b) hr (da_cons (v 0) (da_cons (de_ix ix_tup (od_ixT rfl) (v 1) de_int) da_nil)) trivial rfl rfl) fun pb => de_one (d := .bool (ltD a b)) ?_) ?_
        · cases a with
          | str x => cases b with
            | str y => exact de_cmp op_lt_str od_ltS (de_ix ix_tup (od_ixT rfl) (v 1) de_int) (de_ix ix_tup (od_ixT rfl) (v 1) de_int)
            | _ => cases pb
          | _ => cases pa
        · show Out.ok _ = Out.ok _
          simp only [isRidgeD, h, Bool.true_and]
    · refine ds_ifT (dt_w (dw_orF (dt_not (dt_val (isTuple bt (v 1)))) (dw_orT (neI hr (lenT bt (v 1)) de_int) ?_))) (ds_ret de_bl ?_)
      · rw [Bool.not_eq_true', decide_eq_false_iff_not]; omega
      · show Out.ok _ = Out.ok _
        rw [bad h3]
  | int n => exact ds_ifT (dt_w (dw_orT (dt_not (dt_val (isTuple bt (v 1)))))) (ds_ret de_bl (by rfl))
  | bool n => exact ds_ifT (dt_w (dw_orT (dt_not (dt_val (isTuple bt (v 1)))))) (ds_ret de_bl (by rfl))
  | none => exact ds_ifT (dt_w (dw_orT (dt_not (dt_val (isTuple bt (v 1)))))) (ds_ret de_bl (by rfl))
  | str z => exact ds_ifT (dt_w (dw_orT (dt_not (dt_val (isTuple bt (v 1)))))) (ds_ret de_bl (by rfl))
  | list z => exact ds_ifT (dt_w (dw_orT (dt_not (dt_val (isTuple bt (v 1)))))) (ds_ret de_bl (by rfl))
  | dict z => exact ds_ifT (dt_w (dw_orT (dt_not (dt_val (isTuple bt (v 1)))))) (ds_ret de_bl (by rfl))
theorem words_strs : ∀ {ps : List D}, ps.all isWordD = true → ps = (strsOf ps).map .str
  | [], _ => rfl
  | p :: ps, h => by
    rw [List.all_cons, Bool.and_eq_true] at h
    have ih := words_strs h.2
    cases p with
    | str z => show _ :: ps = .str z :: (strsOf ps).map .str; rw [← ih]
    | _ => cases h.1
theorem ridge_form {ps : List Str} {d : D} (h : isRidgeD ps d = true) : ∃ a b c, d = .tuple [.str a, .str b, .int c] ∧ a ∈ ps ∧ b ∈ ps ∧ a.cps.toList < b.cps.toList ∧ 1 ≤ c ∧ c ≤ 9 := by
  unfold isRidgeD at h
  split at h
  · next a b c =>
    rw [Bool.and_eq_true, Bool.and_eq_true, Bool.and_eq_true] at h
    obtain ⟨h1, h2, h3, h4⟩ := h
    cases a with
    | str x => cases b with
      | str y => cases c with
        | int n =>
          simp only [isWholeD, isPoolD, ltD, Bool.and_eq_true, decide_eq_true_eq] at h1 h2 h3 h4
          exact ⟨x, y, n, rfl, h2, h3, h4, h1.1, h1.2⟩
        | _ => cases h1
      | _ => cases h3
    | _ => cases h2
  · cases h
theorem cut2_ridges {ps : List Str} : ∀ {rs : List D}, rs.all (isRidgeD ps) = true → ∃ l : List (Str × Str), rs.map cut2 = l.map toD
  | [], _ => ⟨[], rfl⟩
  | r :: rs, h => by
    rw [List.all_cons, Bool.and_eq_true] at h
    obtain ⟨l, hl⟩ := cut2_ridges h.2
    obtain ⟨a, b, c, rfl, _⟩ := ridge_form h.1
    exact ⟨(a, b) :: l, by rw [List.map_cons, List.map_cons, hl]; rfl⟩
theorem cut2_is {xs : List D} : DL.cutD xs none (some 2) = xs.take 2 := by
  unfold DL.cutD
  rw [HT.sIx_none, show HT.sIx xs.length xs.length (some 2) = min 2 xs.length from HT.sIx_nat xs.length _ 2]
  rw [List.drop_zero, Nat.sub_zero]
  by_cases h : 2 ≤ xs.length
  · rw [Nat.min_eq_left h]
  · rw [Nat.min_eq_right (by omega), List.take_of_length_le (Nat.le_refl _), List.take_of_length_le (by omega)]
/-- texts are not too long -/
def tameShore (d : D) : Prop := ∀ ps r z, d = .tuple [.tuple ps, r] → PyData.str z ∈ ps → z.length ≤ 100000
abbrev spShore (K : PySem.W.Frag) (mg : Str → Option Value) : Sp := spD K mg (α := D) (fun d => [d]) tameShore (fun d => .ok (.bool (isShoreD d)))
theorem shore_parts {d : D} (h : isShoreD d = true) : ∃ ps rs, d = .tuple [.tuple ps, .tuple rs] ∧ (decide ((2 : Int) ≤ ps.length) && decide ((ps.length : Int) ≤ 6)) = true ∧ ps.all isWordD = true ∧ riseD ps = true ∧ rs.length ≤ 10 ∧ rs.all (isRidgeD (strsOf ps)) = true ∧ riseD (rs.map cut2) = true := by
  unfold isShoreD at h
  split at h
  · next ps r =>
    cases r with
    | tuple rs =>
      simp only [Bool.and_eq_true, decide_eq_true_eq] at h
      obtain ⟨⟨⟨⟨h1, h2⟩, h3⟩, h4⟩, ⟨h5, h6⟩, h7⟩ := h
      exact ⟨ps, rs, rfl, by simp only [Bool.and_eq_true, decide_eq_true_eq]; exact ⟨h1, h2⟩, h3, h4, h5, h6, h7⟩
    | _ => simp at h
  · cases h
theorem notShore {d : D} (h : isShoreD d = true → False) : isShoreD d = false := by
  cases q : isShoreD d with
  | true => exact (h q).elim
  | false => rfl
theorem k_is_shore (T : Tx K mg) : DefOk P w K mg base 3 "is_shore" p_is_shore (spShore K mg) := by
  refine T.d_is_shore.ok sc_is_shore (fun _ => rfl) fun d ht f cdv A outer s H G E hr tk hp => ?_
  have bt := T.bt
  have kW := (k_is_word (P := P) (w := w) (base := base) T).mono (k := 2) (by decide)
  have kR := k_is_ridge (P := P) (w := w) (base := base) T
  have kI := (k_rise (P := P) (w := w) (base := base) T).mono (k := 2) (by decide)
  have bad : (isShoreD d = true → False) → Out.ok (.bool (isShoreD d)) = Out.ok (.bool false) := fun h => by rw [notShore h]
  by_cases hT : d.isTuple = true
  case neg => exact ds_ifT (dt_w (dw_orT (dt_not (dt_val (isTuple bt (v 0)))) (by rw [Bool.not_eq_true] at hT; rw [hT]; rfl))) (ds_ret de_bl (bad fun h => by obtain ⟨ps, rs, rfl, _⟩ := shore_parts h; exact hT rfl))
  obtain ⟨xs, rfl⟩ := tuple_of hT
  by_cases h2 : xs.length = 2
  case neg => exact ds_ifT (dt_w (dw_orF (dt_not (dt_val (isTuple bt (v 0)))) (dw_or1 (neI hr (lenT bt (v 0)) de_int)))) (ds_ret de_bl (bad fun h => by obtain ⟨ps, rs, e, _⟩ := shore_parts h; cases e; exact h2 rfl)) (by rw [Bool.not_eq_true', decide_eq_false_iff_not]; omega)
  obtain ⟨p, r, rfl⟩ : ∃ a b, xs = [a, b] := by
    match xs, h2 with | [a, b], _ => exact ⟨a, b, rfl⟩
  refine ds_ifF (dt_w (dw_orF (dt_not (dt_val (isTuple bt (v 0)))) (dw_or1 (neI hr (lenT bt (v 0)) de_int)))) ?_
  refine ds_asg (v 0) (dg_tup rfl (dgs_cons (dg_name (i := 1) sc_is_shore.nd) (dgs_cons (dg_name (i := 2) sc_is_shore.nd) dgs_nil))) ?_
  by_cases hP : p.isTuple = true
  case neg => exact ds_ifT (dt_w (dw_orT (dt_not (dt_val (isTuple bt (v 1)))) (by rw [Bool.not_eq_true] at hP; rw [hP]; rfl))) (ds_ret de_bl (bad fun h => by obtain ⟨ps, rs, e, _⟩ := shore_parts h; cases e; exact hP rfl))
  obtain ⟨ps, rfl⟩ := tuple_of hP
  by_cases hlen : (decide ((2 : Int) ≤ ps.length) && decide ((ps.length : Int) ≤ 6)) = true
  case neg => exact ds_ifT (dt_w (dw_orF (dt_not (dt_val (isTuple bt (v 1)))) (dw_orT (dt_not (dt_chain op_le op_le od_le (fun _ => od_le) de_int (lenT bt (v 1)) fun _ => de_int)) (by rw [Bool.not_eq_true] at hlen; rw [hlen]; rfl)))) (ds_ret de_bl (bad fun h => by obtain ⟨ps, rs, e, hh, _⟩ := shore_parts h; cases e; exact hlen hh))
  have hl6 : ps.length ≤ 6 := by simp only [Bool.and_eq_true, decide_eq_true_eq] at hlen; omega
  by_cases hw : ps.all isWordD = true
  case neg =>
    refine ds_ifT (dt_w (dw_orF (dt_not (dt_val (isTuple bt (v 1)))) (dw_orF (dt_not (dt_chain op_le op_le od_le (fun _ => od_le) de_int (lenT bt (v 1)) fun _ => de_int)) (dw_or1 (dt_not (dt_val (allC (own := [("one", 3)]) isWordD bt rfl sc_is_shore.nd (di_id (di_tup (v 1))) (blkOk_by (N := n_is_shore) (sc := defScope s_is_shore) (by decide +kernel)) (Nat.le_trans hl6 (by decide)) fun d hd => ?_)))) ?_))) (ds_ret de_bl (bad fun h => by obtain ⟨ps, rs, e, _, hh, _⟩ := shore_parts h; cases e; exact hw hh)) ?_
    · exact ⟨_, _, fun j h => h, fun s H C cl fp => ⟨dg_name sc_is_shore.nd, dts_nil, fun _ => de_call kW d hr (da_cons (v 3) da_nil) (fun z hz => ht ps r z rfl (hz ▸ hd)) rfl rfl⟩⟩
    · rw [hlen]; rfl
    · rw [Bool.not_eq_true] at hw; rw [hw]; rfl
  refine ds_ifF (dt_w (dw_orF (dt_not (dt_val (isTuple bt (v 1)))) (dw_orF (dt_not (dt_chain op_le op_le od_le (fun _ => od_le) de_int (lenT bt (v 1)) fun _ => de_int)) (dw_or1 (dt_not (dt_val (allC (own := [("one", 3)]) isWordD bt rfl sc_is_shore.nd (di_id (di_tup (v 1))) (blkOk_by (N := n_is_shore) (sc := defScope s_is_shore) (by decide +kernel)) (Nat.le_trans hl6 (by decide)) fun d hd => ?_)))) ?_))) ?_ ?_
  · exact ⟨_, _, fun j h => h, fun s H C cl fp => ⟨dg_name sc_is_shore.nd, dts_nil, fun _ => de_call kW d hr (da_cons (v 3) da_nil) (fun z hz => ht ps r z rfl (hz ▸ hd)) rfl rfl⟩⟩
  · rw [hlen]; rfl
  rotate_left
  · rw [hw]; rfl
  obtain ⟨ss, rfl⟩ : ∃ ss : List Str, ps = ss.map .str := ⟨_, words_strs hw⟩
  have hrp : PySem.W.AllAlike (ss.map PyData.str) ∧ (∀ d ∈ ss.map PyData.str, d ≠ .none ∧ d.depth ≤ 50) ∧ (ss.map PyData.str).length ≤ 100000 := ⟨alike_ty ss, nn_ty (by decide) ss, Nat.le_trans hl6 (by decide)⟩
  by_cases hri : riseD (ss.map .str) = true
  case neg => exact ds_ifT (dt_w (dw_orT (dt_not (dt_val (de_call kI (true, ss.map .str) hr (da_cons (v 1) da_nil) hrp rfl rfl))) (by rw [Bool.not_eq_true] at hri; rw [hri]; rfl))) (ds_ret de_bl (bad fun h => by obtain ⟨ps, rs, e, _, _, hh, _⟩ := shore_parts h; cases e; exact hri hh))
  by_cases hR : r.isTuple = true
  case neg => exact ds_ifT (dt_w (dw_orF (dt_not (dt_val (de_call kI (true, ss.map .str) hr (da_cons (v 1) da_nil) hrp rfl rfl))) (dw_orT (dt_not (dt_val (isTuple bt (v 2)))) (by rw [Bool.not_eq_true] at hR; rw [hR]; rfl)) (by rw [hri]; rfl))) (ds_ret de_bl (bad fun h => by obtain ⟨ps, rs, e, _⟩ := shore_parts h; cases e; exact hR rfl))
  obtain ⟨rs, rfl⟩ := tuple_of hR
  by_cases hl10 : rs.length ≤ 10
  case neg => exact ds_ifT (dt_w (dw_orF (dt_not (dt_val (de_call kI (true, ss.map .str) hr (da_cons (v 1) da_nil) hrp rfl rfl))) (dw_orF (dt_not (dt_val (isTuple bt (v 2)))) (dw_or1 (gtI (lenT bt (v 2)) de_int))) (by rw [hri]; rfl))) (ds_ret de_bl (bad fun h => by obtain ⟨ps, rs, e, _, _, _, hh, _⟩ := shore_parts h; cases e; exact hl10 hh)) (by rw [decide_eq_true_eq]; omega)
  refine ds_ifF (dt_w (dw_orF (dt_not (dt_val (de_call kI (true, ss.map .str) hr (da_cons (v 1) da_nil) hrp rfl rfl))) (dw_orF (dt_not (dt_val (isTuple bt (v 2)))) (dw_or1 (gtI (lenT bt (v 2)) de_int))) (by rw [hri]; rfl))) ?_ (by rw [decide_eq_false_iff_not]; omega)
  refine ds_ret (de_and (allC (own := [("one", 3)]) (isRidgeD ss) bt rfl sc_is_shore.nd (di_id (di_tup (v 2))) (blkOk_by (N := n_is_shore) (sc := defScope s_is_shore) (by decide +kernel)) (Nat.le_trans hl10 (by decide)) fun d hd => ?_) fun ha => de_one (de_call kI (false, rs.map cut2) hr (da_cons (dl_e (dl_map (xs := rs) (enc := id) (own := [("one", 3)]) cut2 rfl sc_is_shore.nd (di_id (di_tup (v 2))) (blkOk_by (N := n_is_shore) (sc := defScope s_is_shore) (by decide +kernel)) (Nat.le_trans hl10 (by decide)) fun d hd => ?_)) da_nil) ?_ rfl rfl)) ?_
  · exact ⟨_, _, fun j h => h, fun s H C cl fp => ⟨dg_name sc_is_shore.nd, dts_nil, fun _ => de_call kR (ss, d) hr (da_cons (v 1) (da_cons (v 3) da_nil)) trivial rfl rfl⟩⟩
  · obtain ⟨a, b, c, rfl, _⟩ := ridge_form (List.all_eq_true.mp ha d hd)
    exact ⟨_, _, fun j h => h, fun s H C cl fp => ⟨dg_name sc_is_shore.nd, dts_nil, fun _ => de_to (de_slT (v 3) do_none (do_some de_int)) (by rw [cut2_is]; rfl)⟩⟩
  · obtain ⟨l, hl⟩ := cut2_ridges ha
    show PySem.W.AllAlike (rs.map cut2) ∧ (∀ d ∈ rs.map cut2, _) ∧ (rs.map cut2).length ≤ _
    rw [hl]
    exact ⟨alike_ty l, nn_ty (by decide) l, by rw [List.length_map]; have := congrArg List.length hl; rw [List.length_map, List.length_map] at this; omega⟩
  · show Out.ok _ = Out.ok _
    rw [Bool.and_eq_true] at hlen
    rw [show isShoreD (.tuple [.tuple (ss.map .str), .tuple rs]) = (rs.all (isRidgeD ss) && riseD (rs.map cut2)) from by
      show (decide ((2 : Int) ≤ (ss.map PyData.str).length) && decide (((ss.map PyData.str).length : Int) ≤ 6) && (ss.map PyData.str).all isWordD && riseD (ss.map .str) && (decide (rs.length ≤ 10) && rs.all (isRidgeD (strsOf (ss.map .str))) && riseD (rs.map cut2))) = _
      rw [strsOf_map, hlen.1, hlen.2, hw, hri, decide_eq_true hl10]
      simp only [Bool.true_and]]
/-- need_..: nothing, or the exception -/
abbrev spNeedShore (K : PySem.W.Frag) (mg : Str → Option Value) : Sp := spD K mg (α := D) (fun d => [d]) tameShore (fun d => if isShoreD d then .ok .none else .err "BadShore")
theorem k_need_shore (T : Tx K mg) : DefOk P w K mg base 4 "need_shore" p_need_shore (spNeedShore K mg) := by
  refine T.d_need_shore.ok sc_need_shore (fun _ => rfl) fun d ht f cdv A outer s H G E hr tk hp => ?_
  have kS := k_is_shore (P := P) (w := w) (base := base) T
  refine ds_ifRet (dt_not (dt_val (de_call kS d hr (da_cons (v 0) da_nil) ht rfl rfl))) (fun h => ds_raise T.e_BadShore rfl tk rfl ?_) fun h => ds_nil ?_
  · show (if isShoreD d = true then Out.ok .none else Out.err "BadShore") = Out.err "BadShore"
    rw [Bool.not_eq_true'] at h; rw [h]; rfl
  · show (if isShoreD d = true then Out.ok .none else Out.err "BadShore") = Out.ok .none
    rw [Bool.not_eq_false'] at h; rw [h]; rfl
abbrev spNeedHeight (K : PySem.W.Frag) (mg : Str → Option Value) : Sp := spD K mg (α := D) (fun d => [d]) (fun _ => True) (fun d => if isWholeD d 0 9 then .ok .none else .err "BadHeight")
def isCountsD (ps : List Str) : D → Bool
  | .tuple xs => decide ((xs.length : Int) = ps.length) && xs.all fun d => isWholeD d 0 9
  | _ => false
/-- a shore with its pools told (they are texts); its ridges are any data -/
def shD (p : List Str × D) : D := .tuple [strsD p.1, p.2]
abbrev spGoodCounts (K : PySem.W.Frag) (mg : Str → Option Value) : Sp := spD K mg (α := (List Str × D) × D) (fun a => [shD a.1, a.2]) (fun a => a.1.1.length ≤ 100000) (fun a => .ok (.bool (isCountsD a.1.1 a.2)))
abbrev spNeedCounts (K : PySem.W.Frag) (mg : Str → Option Value) : Sp := spD K mg (α := (List Str × D) × D) (fun a => [shD a.1, a.2]) (fun a => a.1.1.length ≤ 100000) (fun a => if isCountsD a.1.1 a.2 then .ok .none else .err "BadCounts")
/-- are_counts: of a shore -/
theorem shD_of {d : D} (h : isShoreD d = true) : ∃ p : List Str × D, d = shD p ∧ p.1.length ≤ 6 := by
  obtain ⟨ps, rs, rfl, h1, h2, _⟩ := shore_parts h
  refine ⟨(strsOf ps, .tuple rs), ?_, ?_⟩
  · show _ = PyData.tuple [.tuple ((strsOf ps).map .str), .tuple rs]
    rw [← words_strs h2]
  · have := congrArg List.length (words_strs h2)
    rw [List.length_map] at this
    simp only [Bool.and_eq_true, decide_eq_true_eq] at h1
    show (strsOf ps).length ≤ 6
    omega
abbrev spAreCounts (K : PySem.W.Frag) (mg : Str → Option Value) : Sp := spD K mg (α := (List Str × D) × D) (fun a => [shD a.1, a.2]) (fun a => isShoreD (shD a.1) = true ∧ tameShore (shD a.1)) (fun a => .ok (.bool (isCountsD a.1.1 a.2)))
/-- how many lie in a lot -/
def inLot (ps : List Str) (ns : List Int) (lot : List Str) : Int := (((ps.zip ns).filter fun z => decide (z.1 ∈ lot)).map (·.2)).sum
abbrev spInLot (K : PySem.W.Frag) (mg : Str → Option Value) : Sp := spD K mg (α := (List Str × D) × List Int × List Str) (fun a => [shD a.1, intsD a.2.1, strsD a.2.2]) (fun a => a.1.1.length ≤ 100000) (fun a => .ok (.int (inLot a.1.1 a.2.1 a.2.2)))
end
end LP
/-! P2: plain: data that are shores; the first parting. -/
namespace LP
open PySem PySem.Spec PyProof.Rows L2 DL
def rgOf : D → Option Rg
  | .tuple [.str a, .str b, .int c] => some (a, b, c)
  | _ => none
def shOf : D → Sh
  | .tuple [.tuple ps, .tuple rs] => (strsOf ps, rs.filterMap rgOf)
  | _ => ([], [])
theorem shOf_shT' (s : Sh) : shOf (shT s) = s := by
  show (strsOf (s.1.map .str), (s.2.map rgT).filterMap rgOf) = s
  rw [strsOf_map, List.filterMap_map, show rgOf ∘ rgT = some from rfl, List.filterMap_some]
theorem rgs_of {ps : List Str} : ∀ {rs : List D}, rs.all (isRidgeD ps) = true → (rs.filterMap rgOf).map rgT = rs ∧ ∀ r ∈ rs.filterMap rgOf, r.1 ∈ ps ∧ r.2.1 ∈ ps
  | [], _ => ⟨rfl, fun r h => by cases h⟩
  | r :: rs, h => by
    rw [List.all_cons, Bool.and_eq_true] at h
    obtain ⟨h1, h2⟩ := rgs_of h.2
    obtain ⟨a, b, c, rfl, ha, hb, _⟩ := ridge_form h.1
    refine ⟨?_, fun q hq => ?_⟩
    · rw [List.filterMap_cons_some (f := rgOf) (a := .tuple [.str a, .str b, .int c]) (b := (a, b, c)) rfl, List.map_cons, h1]; rfl
    · rw [List.filterMap_cons_some (f := rgOf) (a := .tuple [.str a, .str b, .int c]) (b := (a, b, c)) rfl] at hq
      rcases List.mem_cons.mp hq with e | hq
      · subst e; exact ⟨ha, hb⟩
      · exact h2 q hq
theorem rise_pw {α : Type} [DecidableEq α] [PySem.W.DatumOrd α] : ∀ {xs : List α}, riseD (xs.map toD) = true → xs.Pairwise fun a b => tlt a b = true
  | [], _ => .nil
  | [x], _ => by simp
  | x :: y :: r, h => by
    unfold riseD at h
    simp only [List.map_cons, List.drop_succ_cons, List.drop_zero, List.zipWith_cons_cons, List.all_cons, Bool.and_eq_true] at h
    have h2 : riseD ((y :: r).map toD) = true := by
      unfold riseD
      simp only [List.map_cons, List.drop_succ_cons, List.drop_zero]
      exact h.2
    have ih := rise_pw h2
    have hxy : tlt x y = true := h.1
    refine List.pairwise_cons.mpr ⟨fun z hz => ?_, ih⟩
    rcases List.mem_cons.mp hz with e | hz
    · subst e; exact hxy
    · exact tlt_trans hxy ((List.pairwise_cons.mp ih).1 z hz)
theorem pw_rise {α : Type} [DecidableEq α] [PySem.W.DatumOrd α] : ∀ {xs : List α}, (xs.Pairwise fun a b => tlt a b = true) → riseD (xs.map toD) = true
  | [], _ => rfl
  | [x], _ => rfl
  | x :: y :: r, h => by
    have ih := pw_rise (List.pairwise_cons.mp h).2
    unfold riseD at ih ⊢
    simp only [List.map_cons, List.drop_succ_cons, List.drop_zero, List.zipWith_cons_cons, List.all_cons, Bool.and_eq_true] at ih ⊢
    exact ⟨(List.pairwise_cons.mp h).1 y List.mem_cons_self, ih⟩
theorem shOf_eq {d : D} (h : isShoreD d = true) : shT (shOf d) = d ∧ Good (shOf d) := by
  obtain ⟨ps, rs, rfl, h1, h2, h3, h4, h5, h6⟩ := shore_parts h
  have e := words_strs h2
  obtain ⟨r1, r2⟩ := rgs_of h5
  have hl : (strsOf ps).length = ps.length := by
    have := congrArg List.length e
    rw [List.length_map] at this
    exact this.symm
  simp only [Bool.and_eq_true, decide_eq_true_eq] at h1
  refine ⟨?_, ⟨?_, ?_, ?_, ?_, r2⟩⟩
  · show PyData.tuple [.tuple ((strsOf ps).map .str), .tuple ((rs.filterMap rgOf).map rgT)] = _
    rw [← e, r1]
  · show 2 ≤ (strsOf ps).length
    omega
  · show (strsOf ps).length ≤ 6
    omega
  · rw [e] at h3; exact rise_pw h3
  · have := congrArg List.length r1
    rw [List.length_map] at this
    show (rs.filterMap rgOf).length ≤ 10
    omega
/-! ### the first parting -/
open Classical in
noncomputable def areOneB (s : Sh) (h : Int) (a b : Str) : Bool := decide (a ∈ s.1 ∧ b ∈ s.1 ∧ Conn s h a b)
noncomputable def leastO (s : Sh) (a b : Str) : Option Nat := (List.range 10).find? fun k => areOneB s (k : Int) a b
def optD : Option Nat → D
  | none => .none
  | some k => .int k
theorem optD_eqv (a b : Option Nat) : PyData.eqv (optD a) (optD b) = decide (a = b) := by
  cases a with
  | none => cases b with
    | none => rfl
    | some k => rfl
  | some j => cases b with
    | none => rfl
    | some k => show PyData.eqv (.int j) (.int k) = _
                rw [DL.eqv_int]
                exact decide_eq_decide.mpr ⟨fun e => by rw [Int.ofNat.inj e], fun e => by rw [Option.some.inj e]⟩
theorem optD_plain (a : Option Nat) : (optD a).plain = true ∧ (optD a).depth ≤ 50 := by cases a <;> exact ⟨rfl, Nat.zero_le _⟩
def pairsOf (ps : List Str) : List (Str × Str) := ps.zipIdx.flatMap fun z => (ps.drop (z.2 + 1)).map fun b => (z.1, b)
noncomputable def firstPart (s t : Sh) : Option (Str × Str) := (pairsOf s.1).find? fun z => !decide (leastO s z.1 z.2 = leastO t z.1 z.2)
def pairD : Option (Str × Str) → D
  | none => .none
  | some z => .tuple [.str z.1, .str z.2]
noncomputable def partD (s t : Sh) : D := pairD (firstPart s t)
open Classical in
theorem any_lots {s : Sh} {h : Int} (g : Good s) (a b : Str) : ((allLots s h).any fun l => decide (a ∈ l.items) && decide (b ∈ l.items)) = areOneB s h a b := by
  rw [Bool.eq_iff_iff, List.any_eq_true, areOneB, decide_eq_true_iff]
  constructor
  · rintro ⟨l, hl, h2⟩
    obtain ⟨p, hp, rfl⟩ := (mem_allLots g).mp hl
    rw [Bool.and_eq_true, decide_eq_true_eq, decide_eq_true_eq] at h2
    have c1 := mem_lotOf.mp h2.1
    have c2 := mem_lotOf.mp h2.2
    exact ⟨c1.1, c2.1, c1.2.symm.trans c2.2⟩
  · rintro ⟨h1, h2, c⟩
    refine ⟨_, (mem_allLots g).mpr ⟨a, h1, rfl⟩, ?_⟩
    rw [Bool.and_eq_true, decide_eq_true_eq, decide_eq_true_eq]
    exact ⟨mem_lotOf.mpr ⟨h1, .refl a⟩, mem_lotOf.mpr ⟨h2, c⟩⟩
/-! ### what changed -/
noncomputable def changed (s : Sh) (b a : List Int) (h : Int) : List TS := (allLots s h).filter fun l => !decide (inLot s.1 b l.items = inLot s.1 a l.items)
theorem changed_nil {s : Sh} (g : Good s) {b a : List Int} {h : Int} : (changed s b a h).isEmpty = true ↔ ∀ p ∈ s.1, inLot s.1 b (lotOf s h p) = inLot s.1 a (lotOf s h p) := by
  unfold changed
  rw [List.isEmpty_iff, List.filter_eq_nil_iff]
  constructor
  · intro h1 p hp
    have := h1 _ ((mem_allLots g).mpr ⟨p, hp, rfl⟩)
    simpa using this
  · intro h1 l hl
    obtain ⟨p, hp, rfl⟩ := (mem_allLots g).mp hl
    simpa using h1 p hp
end LP
/-! W4: ridges, shores and counts that the dice make. -/
namespace LP
open PySem PySem.Spec PyProof.Rows L2 DL L2H LamX LQ
abbrev T3 := PySem.W.T3 Str Str Int
def pr3 (r : T3) : Str × Str := (r.a, r.b)
def rg3 (r : T3) : Rg := (r.a, r.b, r.c)
theorem erase_map {α β : Type} {f : α → β} : ∀ {l : List α} {j : Nat}, (l.map f).eraseIdx j = (l.eraseIdx j).map f
  | [], _ => by simp
  | _ :: _, 0 => rfl
  | x :: l, j + 1 => by
    show f x :: (l.map f).eraseIdx j = f x :: (l.eraseIdx j).map f
    rw [erase_map]
theorem erase_perm {α : Type} : ∀ {l : List α} {j : Nat} {z : α}, l[j]? = some z → l.Perm (z :: l.eraseIdx j)
  | x :: l, 0, z, h => by
    obtain rfl : x = z := by simpa using h
    exact List.Perm.refl _
  | x :: l, j + 1, z, h => by
    have ih := erase_perm (l := l) (j := j) (z := z) (by simpa using h)
    exact (ih.cons x).trans (List.Perm.swap z x _)
structure RInv (ps : List Str) (so : List (Str × Str)) (found : List T3) : Prop where
  nd : (found.map pr3 ++ so).Nodup
  mem : ∀ z ∈ found.map pr3 ++ so, z ∈ pairsOf ps
  hi : ∀ r ∈ found, 1 ≤ r.c ∧ r.c ≤ 9
def RidgesOk (ps : List Str) (high : Nat) (d : D) : Prop := ∃ rs : List Rg, d = .tuple (rs.map rgT) ∧ rs.length ≤ high ∧ (∀ r ∈ rs, (r.1, r.2.1) ∈ pairsOf ps ∧ 1 ≤ r.2.2 ∧ r.2.2 ≤ 9) ∧ rs.Pairwise fun a b => tlt (a.1, a.2.1) (b.1, b.2.1) = true
theorem RInv.take {ps : List Str} {so : List (Str × Str)} {found : List T3} (R : RInv ps so found) {j : Nat} {z : Str × Str} (hz : so[j]? = some z) {h : Int} (h1 : 1 ≤ h ∧ h ≤ 9) : RInv ps (so.eraseIdx j) (found ++ [⟨z.1, z.2, h⟩]) := by
  have hp : (found.map pr3 ++ so).Perm ((found ++ [(⟨z.1, z.2, h⟩ : T3)]).map pr3 ++ so.eraseIdx j) := by
    rw [List.map_append, List.append_assoc]
    refine List.Perm.append_left _ ?_
    exact erase_perm hz
  refine ⟨hp.nodup_iff.mp R.nd, fun y hy => R.mem y (hp.mem_iff.mpr hy), fun r hr => ?_⟩
  rcases List.mem_append.mp hr with hr | hr
  · exact R.hi r hr
  · rw [List.mem_singleton.mp hr]; exact h1
theorem RInv.done {ps : List Str} {so : List (Str × Str)} {found : List T3} (R : RInv ps so found) {high : Nat} (hl : found.length ≤ high) : RidgesOk ps high (.tuple ((tsort found).map toD)) := by
  have nd1 : (found.map pr3).Nodup := (List.nodup_append.mp R.nd).1
  have nd2 : found.Nodup := List.Pairwise.of_map pr3 (fun a b h e => h (by rw [e])) nd1
  have pw := tsort_strict nd2
  have hperm := tsort_perm found
  have ndp : ((tsort found).map pr3).Nodup := (hperm.map pr3).nodup_iff.mpr nd1
  refine ⟨(tsort found).map rg3, ?_, ?_, fun r hr => ?_, ?_⟩
  · rw [List.map_map]; rfl
  · rw [List.length_map, hperm.length_eq]; exact hl
  · obtain ⟨t, ht, rfl⟩ := List.mem_map.mp hr
    have htf := hperm.mem_iff.mp ht
    exact ⟨R.mem _ (List.mem_append_left _ (List.mem_map.mpr ⟨t, htf, rfl⟩)), R.hi t htf⟩
  · rw [List.pairwise_map]
    have ndp2 : (tsort found).Pairwise fun a b => pr3 a ≠ pr3 b := List.pairwise_map.mp ndp
    refine (pw.and ndp2).imp fun {a b} ⟨h1, h2⟩ => ?_
    show tlt (pr3 a) (pr3 b) = true
    unfold tlt at h1 ⊢
    have h1' : PySem.W.DatumOrd.lt a b = true := by rw [← PySem.W.DatumOrd.lt_eq]; exact h1
    have goal : PySem.W.DatumOrd.lt (pr3 a) (pr3 b) = true := by
      have e3 : PySem.W.DatumOrd.lt a b = if a.a = b.a then (if a.b = b.b then PySem.W.DatumOrd.lt a.c b.c else PySem.W.DatumOrd.lt a.b b.b) else PySem.W.DatumOrd.lt a.a b.a := rfl
      have e2 : PySem.W.DatumOrd.lt (pr3 a) (pr3 b) = if a.a = b.a then PySem.W.DatumOrd.lt a.b b.b else PySem.W.DatumOrd.lt a.a b.a := rfl
      rw [e3] at h1'
      rw [e2]
      by_cases ha : a.a = b.a
      · rw [if_pos ha] at h1' ⊢
        by_cases hb : a.b = b.b
        · exact absurd (show pr3 a = pr3 b by unfold pr3; rw [ha, hb]) h2
        · rw [if_neg hb] at h1'; exact h1'
      · rw [if_neg ha] at h1' ⊢; exact h1'
    rw [PySem.W.DatumOrd.lt_eq]
    exact goal
theorem dxs_imp {X : Cx} {F : Fr0} {E : Fam} {es : List Expr} {Sa Sb : List D → Prop} (h : DXs X F E es Sa) (hS : ∀ l, Sa l → Sb l) : DXs X F E es Sb := h.imp fun σ H Q ⟨x, k, G, ex, sl, q⟩ => ⟨x, k, G, ex, sl, fun l x' k' vs G2 H2 hl => q l x' k' vs G2 H2 (hS l hl)⟩
theorem dsx_at {X : Cx} {F : Fr0} {E : Fam} {rest : List Stmt} {N : DEnd} (x k : Int) (h : DSX X F E rest N) : DS X F (E x k) rest N := h x k
def pairsTo (ps : List Str) (i : Nat) : List (Str × Str) := (ps.zipIdx.take i).flatMap fun z => (ps.drop (z.2 + 1)).map fun b => (z.1, b)
theorem pairs_len (ps : List Str) (h : ps.length ≤ 6) : ∀ i, (pairsTo ps i).length ≤ 36 := fun i => by
  unfold pairsTo
  rw [List.length_flatMap]
  have hl : ((ps.zipIdx.take i).map fun z => ((ps.drop (z.2 + 1)).map fun b => (z.1, b)).length).length ≤ 6 := by
    rw [List.length_map, List.length_take, List.length_zipIdx]; omega
  have hb : ∀ n ∈ ((ps.zipIdx.take i).map fun z => ((ps.drop (z.2 + 1)).map fun b => (z.1, b)).length), n ≤ 6 := fun n hn => by
    obtain ⟨z, _, rfl⟩ := List.mem_map.mp hn
    rw [List.length_map, List.length_drop]; omega
  generalize ((ps.zipIdx.take i).map fun z => ((ps.drop (z.2 + 1)).map fun b => (z.1, b)).length) = l at hl hb
  have : ∀ l : List Nat, (∀ n ∈ l, n ≤ 6) → l.sum ≤ 6 * l.length := fun l => by
    induction l with
    | nil => intro _; exact Nat.zero_le _
    | cons x r ih =>
      intro h
      have h1 := h x List.mem_cons_self
      have h2 := ih fun n hn => h n (List.mem_cons_of_mem _ hn)
      rw [List.sum_cons, List.length_cons]; omega
  have := this l hb
  omega
section
variable {P : Program} {w : World} {K : PySem.W.Frag} {mg : Str → Option Value} {base : Heap}
abbrev famR (p : Addr) (ps : List Str) (hi : Nat) (so fo : List D) (a5 a6 a7 a8 a9 : Sl) : Fam := fun x k => [.own [.int x, .int k] (some p), .dat (strsD ps), .dat (.int hi), .own so, .own fo, a5, a6, a7, a8, a9]
def IR1 (p : Addr) (ps : List Str) (hi : Nat) (x k : Int) (i : Nat) (ρ : DL.Env) : Prop := ∃ so a5 a6 a7 a8 a9, ρ = famR p ps hi so [] a5 a6 a7 a8 a9 x k ∧ so = (pairsTo ps i).map toD
def IR2 (p : Addr) (ps : List Str) (hi : Nat) (i : Nat) (ρ : DL.Env) : Prop := ∃ x k so fo a5 a6 a7 a8 a9, ∃ (so' : List (Str × Str)) (fo' : List T3), ρ = famR p ps hi so fo a5 a6 a7 a8 a9 x k ∧ so = so'.map toD ∧ fo = fo'.map toD ∧ RInv ps so' fo' ∧ fo'.length ≤ i ∧ so'.length ≤ 36 ∧ i ≤ hi
abbrev spRidges (K : PySem.W.Frag) (mg : Str → Option Value) : Sp := spDice K mg (α := List Str × Nat) (fun a => [strsD a.1, .int a.2]) (fun a => a.1.length ≤ 6 ∧ a.1.Nodup ∧ a.2 ≤ 100) (fun a d => RidgesOk a.1 a.2 d)
theorem pairs_nodup {ps : List Str} (h : ps.Nodup) : (pairsOf ps).Nodup := by
  unfold pairsOf
  refine List.pairwise_flatMap.mpr ⟨fun z hz => ?_, ?_⟩
  · rw [List.pairwise_map]
    exact (h.sublist (List.drop_sublist _ _)).imp fun {a b} q e => q (Prod.mk.inj e).2
  · have hm : (ps.zipIdx.map Prod.fst).Nodup := by rw [List.zipIdx_map_fst]; exact h
    refine (List.pairwise_map.mp hm).imp fun {a b} q x hx y hy e => ?_
    obtain ⟨c, _, rfl⟩ := List.mem_map.mp hx
    obtain ⟨d, _, rfl⟩ := List.mem_map.mp hy
    exact q (Prod.mk.inj e).1
theorem pairs_mem {ps : List Str} (h : ps.Pairwise fun a b => tlt a b = true) {z : Str × Str} (hz : z ∈ pairsOf ps) : z.1 ∈ ps ∧ z.2 ∈ ps ∧ tlt z.1 z.2 = true := by
  unfold pairsOf at hz
  obtain ⟨⟨a, i⟩, ha, hb⟩ := List.mem_flatMap.mp hz
  obtain ⟨b, hb2, rfl⟩ := List.mem_map.mp hb
  have hi : ps[i]? = some a := by
    have := List.mem_zipIdx_iff_getElem?.mp ha
    simpa using this
  have hil := (List.getElem?_eq_some_iff.mp hi).1
  have e : ps.drop i = a :: ps.drop (i + 1) := by
    rw [List.drop_eq_getElem_cons hil, (List.getElem?_eq_some_iff.mp hi).2]
  have p := h.sublist (List.drop_sublist i ps)
  rw [e] at p
  exact ⟨List.mem_of_getElem? hi, List.mem_of_mem_drop hb2, (List.pairwise_cons.mp p).1 b hb2⟩
theorem k_any_ridges (T : Tx K mg) : DefOk P w K mg base 3 "_law_any_ridges" p__law_any_ridges (spRidges K mg) := by
  refine T.d__law_any_ridges.okD sc__law_any_ridges (fun _ => rfl) fun ⟨ps, hi⟩ ⟨h6, hnd, hhi⟩ f cdv A outer s H G p E hr tk hp => fun x k => ?_
  have bt := T.bt
  have nd := sc__law_any_ridges.nd
  have kR := k_roll (P := P) (w := w) (base := base) T
  have h6 : ps.length ≤ 6 := h6
  have hhi : hi ≤ 100 := hhi
  refine ds_parL (i := 3) (j := 4) (l1 := []) (l2 := []) (dl_lst da_nil) (dl_lst da_nil) ?_ rfl nd
  refine ds_for (IR1 p ps hi x k) (IR1 p ps hi x k ps.length) (enumT bt (v 1)) ⟨_, _, _, _, _, _, rfl, rfl⟩ ?_ (fun ρ' h => by simpa using h) ?_ hp rfl
  · rintro i d ρ' hd ⟨so, a5, a6, a7, a8, a9, rfl, rfl⟩
    rw [List.getElem?_map, List.getElem?_zipIdx, List.getElem?_map] at hd
    cases hx : ps[i]? with
    | none => rw [hx] at hd; cases hd
    | some y =>
      rw [hx] at hd
      simp only [Option.map_some, Nat.zero_add, Option.some.injEq] at hd
      subst hd
      refine ⟨_, _, dg_tup rfl (dgs_cons (dg_name (i := 5) nd) (dgs_cons (dg_name (i := 6) nd) dgs_nil)), ?_⟩
      have hzi : ps.zipIdx[i]? = some (y, i) := by rw [List.getElem?_zipIdx, hx]; simp
      have hstep : pairsTo ps (i + 1) = pairsTo ps i ++ (ps.drop (i + 1)).map fun b => (y, b) := by
        unfold pairsTo
        rw [List.take_add_one, hzi, List.flatMap_append]
        simp
      refine ds_setL (i := 3) (dl_cat (dm_own 3) (dm_new (dl_map (xs := ps.drop (i + 1)) (enc := .str) (own := [("_law_other", 9)]) (fun b => .tuple [.str y, .str b]) rfl nd (di_tup (de_to (de_slT (xs := ps.map .str) (l := some (((i + 1 : Nat) : Int))) (v 1) (do_some (de_to (de_bin op_add od_add (v 5) de_int) (by simp))) do_none) (by rw [cutN, List.map_drop]))) (blkOk_by (N := n__law_any_ridges) (sc := defScope s__law_any_ridges) (by decide +kernel)) (by rw [List.length_drop]; omega) fun b hb => ?_)) ?_) ?_ nd
      · exact ⟨_, _, fun j h => h, fun s' H C cl fp => ⟨dg_name nd, dts_nil, fun _ => de_tup (da_cons (v 6) (da_cons (v 9) da_nil))⟩⟩
      · have := pairs_len ps h6 i
        rw [List.length_map, List.length_map, List.length_drop]; omega
      · refine ds_nil ⟨_, _, _, _, _, _, rfl, ?_⟩
        rw [hstep, List.map_append, List.map_map]
        rfl
  · rintro ρ' ⟨so, a5, a6, a7, a8, a9, rfl, rfl⟩
    have e0 : pairsTo ps ps.length = pairsOf ps := by
      unfold pairsTo pairsOf
      rw [List.take_of_length_le (by rw [List.length_zipIdx]; exact Nat.le_refl _)]
    rw [e0]
    have hL : (pairsOf ps).length ≤ 36 := e0 ▸ pairs_len ps h6 ps.length
    refine dsx_at (E := famR p ps hi ((pairsOf ps).map toD) [] a5 a6 a7 a8 a9) x k (dsx_for (Ss := fun l => ∃ n : Nat, n ≤ hi ∧ l = (List.range n).map fun i => .int (i : Nat)) (IR2 p ps hi) (fun ρ => ∃ i, IR2 p ps hi i ρ) (xi_range (S := resRoll (hi + 1)) bt (dx_call (i := 0) (p := p) kR (hi + 1) hr ⟨fun _ _ => rfl, fun _ _ _ _ => rfl⟩ (fun x k => da_cons (de_to (d := .int ((hi : Int) + 1)) (de_bin op_add od_add (v 2) de_int) rfl) da_nil) ⟨by omega, by omega⟩ (fun d h => h) rfl) (fun d ⟨j, hj, hl⟩ => ⟨j, hj, by omega⟩) (by omega)) ?_ ?_ ?_ ?_ hp rfl)
    · intro x k
      exact ⟨x, k, _, _, _, _, _, _, _, pairsOf ps, [], rfl, rfl, rfl, ⟨by simpa using pairs_nodup hnd, fun z hz => by simpa using hz, fun r hr => by cases hr⟩, Nat.le_refl _, hL, Nat.zero_le _⟩
    · rintro items ⟨n, hn, rfl⟩ i d ρ' hd ⟨x, k, so, fo, a5, a6, a7, a8, a9, so', fo', rfl, rfl, rfl, R, hfo, hso, hi'⟩
      have hin : i < n := by
        have := (List.getElem?_eq_some_iff.mp hd).1
        simpa using this
      refine ⟨_, _, dg_name (i := 7) nd, ?_⟩
      refine ds_if (IR2 p ps hi (i + 1)) (neNil hr (pl_ty so') (vo 3)) (fun hb => ?_) (fun hb => ?_) (fun ρ' h => ds_nil h)
      · have hpos : 0 < so'.length := by
          cases so' with
          | nil => cases hb
          | cons z r => exact Nat.succ_pos _
        refine dsx_at (E := fun x k => (famR p ps hi (so'.map toD) (fo'.map toD) a5 a6 a7 a8 a9 x k).set 7 (.dat d)) x k ?_
        refine dsx_popAt (i := 3) (j := 8) (ds := so'.map toD) (fun _ _ => rfl) (dx_call (i := 0) (p := p) (S := resRoll so'.length) kR so'.length hr ⟨fun _ _ => rfl, fun _ _ _ _ => rfl⟩ (fun x k => da_cons (de_to (lenR bt (vo 3)) (by rw [List.length_map])) da_nil) ⟨hpos, by omega⟩ (fun d h => h) (by rfl)) (fun d ⟨j, hj, hl⟩ => ⟨j, hj, by rw [List.length_map]; exact hl⟩) (by rw [List.length_map]; omega) (fun j d2 hj => ?_) nd
        rw [List.getElem?_map] at hj
        cases hz : so'[j]? with
        | none => rw [hz] at hj; cases hj
        | some z =>
          rw [hz] at hj
          cases hj
          refine dsx_app (i := 4) (ds := fo'.map toD) (fun _ _ => rfl) (dx_bin (S := fun d => ∃ h : Int, (1 ≤ h ∧ h ≤ 9) ∧ d = toD (⟨z.1, z.2, h⟩ : T3)) (Sa := fun d => d = .tuple [.str z.1, .str z.2]) (Sb := fun d => ∃ h : Int, (1 ≤ h ∧ h ≤ 9) ∧ d = .tuple [.int h]) op_catA (dx_of (fun x k => v 8) rfl) (dx_tup (Ss := fun l => ∃ h : Int, (1 ≤ h ∧ h ≤ 9) ∧ l = [.int h]) ?_ ?_ ?_) ?_) (by rw [List.length_map]; omega) (fun d3 h3 => fun x k => ?_)
          · refine dxs_imp (dxs_cons (Sa := fun d => ∃ h : Int, (1 ≤ h ∧ h ≤ 9) ∧ d = .int h) (Ss := fun l => l = []) (dx_bin (Sa := fun d => d = .int 1) (Sb := resRoll 9) op_add (dx_of (fun _ _ => de_int) rfl) (dx_call (i := 0) (p := p) kR 9 hr ⟨fun _ _ => rfl, fun _ _ _ _ => rfl⟩ (fun x k => da_cons de_int da_nil) ⟨by decide, by decide⟩ (fun d h => h) (by rfl)) ?_) (dxs_nil rfl)) fun l hl => ?_
            · rintro da db rfl ⟨j, rfl, hj⟩
              exact ⟨_, ⟨1 + (j : Int), ⟨by omega, by omega⟩, rfl⟩, od_add⟩
            · obtain ⟨d, r, rfl, ⟨h, hh, rfl⟩, rfl⟩ := hl
              exact ⟨h, hh, rfl⟩
          · rintro l ⟨h, _, rfl⟩; exact Nat.le_of_ble_eq_true rfl
          · rintro l ⟨h, hh, rfl⟩; exact ⟨h, hh, rfl⟩
          · rintro da db rfl ⟨h, hh, rfl⟩
            exact ⟨_, ⟨h, hh, rfl⟩, od_catT (Nat.le_of_ble_eq_true rfl)⟩
          · obtain ⟨h, hh, rfl⟩ := h3
            refine ds_nil ⟨x, k, _, _, _, _, _, _, _, so'.eraseIdx j, fo' ++ [⟨z.1, z.2, h⟩], rfl, ?_, ?_, R.take hz hh, ?_, ?_, by omega⟩
            · exact erase_map
            · rw [List.map_append]; rfl
            · rw [List.length_append, List.length_singleton]; omega
            · rw [List.length_eraseIdx]; split <;> omega
      · exact ds_nil ⟨x, k, _, _, _, _, _, _, _, so', fo', rfl, rfl, rfl, R, by omega, hso, by omega⟩
    · rintro items ⟨n, hn, rfl⟩ ρ' h
      exact ⟨_, h⟩
    · rintro ρ' ⟨i, x, k, so, fo, a5, a6, a7, a8, a9, so', fo', rfl, rfl, rfl, R, hfo, hso, hi'⟩
      refine ds_ret (tupleR bt (dl_r (sortedR bt hr (alike_ty fo') (.inl fun d hd => ?_) (fun d hd => (nn_ty (by decide) fo' d hd).2) (vo 4)))) ⟨?_, x, k, rfl⟩
      · obtain ⟨t, _, rfl⟩ := List.mem_map.mp hd
        exact ⟨_, _, rfl⟩
      · rw [dsort_ty]
        exact R.done (Nat.le_trans hfo hi')
end
end LP
/-! W5: shores and counts that the dice make. -/
namespace LP
open PySem PySem.Spec PyProof.Rows L2 DL L2H LamX LQ
def names6 : List Str := ["bay", "cove", "deep", "eddy", "ford", "gut"]
theorem names_up (n : Nat) : (names6.take n).Pairwise fun a b => tlt a b = true := by
  have h : names6.Pairwise fun a b => tlt a b = true := by decide +kernel
  exact h.sublist (List.take_sublist _ _)
theorem names_words (n : Nat) : ∀ z ∈ names6.take n, isWordD (.str z) = true ∧ z.length ≤ 100000 := fun z hz => by
  have h : ∀ z ∈ names6, isWordD (.str z) = true ∧ z.length ≤ 100000 := by decide +kernel
  exact h z (List.mem_of_mem_take hz)
/-- a shore that the dice make -/
structure Dsh (n high : Nat) (s : Sh) : Prop where
  two : 2 ≤ n
  six : n ≤ 6
  ps : s.1 = names6.take n
  rs : RidgesOk s.1 high (.tuple (s.2.map rgT))
theorem rgT_inj {a b : Rg} (h : rgT a = rgT b) : a = b := by
  unfold rgT at h
  injection h with h
  injection h with h1 h
  injection h with h2 h
  injection h with h3 h
  injection h1 with h1
  injection h2 with h2
  injection h3 with h3
  exact Prod.ext h1 (Prod.ext h2 h3)
theorem Dsh.facts {n high : Nat} {s : Sh} (d : Dsh n high s) (hh : high ≤ 10) : isShoreD (shT s) = true ∧ tameShore (shT s) := by
  obtain ⟨ps, rs⟩ := s
  obtain ⟨h2, h6, rfl, rs', hr, hl, hm, hp⟩ := d
  have er : rs' = rs := by
    injection hr with hr
    exact ((List.map_inj_right fun a b => rgT_inj).mp hr).symm
  subst er
  have hlen : (names6.take n).length = n := by rw [List.length_take]; exact Nat.min_eq_left (Nat.le_trans h6 (by decide))
  have hw := names_words n
  refine ⟨?_, fun ps r z e hz => ?_⟩
  · show (decide ((2 : Int) ≤ ((names6.take n).map PyData.str).length) && decide ((((names6.take n).map PyData.str).length : Int) ≤ 6) && ((names6.take n).map PyData.str).all isWordD && riseD ((names6.take n).map .str) && (decide ((rs'.map rgT).length ≤ 10) && (rs'.map rgT).all (isRidgeD (strsOf ((names6.take n).map .str))) && riseD ((rs'.map rgT).map cut2))) = true
    simp only [Bool.and_eq_true, decide_eq_true_eq, List.all_eq_true]
    rw [strsOf_map, List.length_map, List.length_map, hlen]
    refine ⟨⟨⟨⟨by omega, by omega⟩, fun d hd => ?_⟩, pw_rise (names_up n)⟩, ⟨by omega, fun d hd => ?_⟩, ?_⟩
    · obtain ⟨z, hz, rfl⟩ := List.mem_map.mp hd
      exact (hw z hz).1
    · obtain ⟨r, hr, rfl⟩ := List.mem_map.mp hd
      obtain ⟨h1, h3, h9⟩ := hm r hr
      obtain ⟨a1, a2, a3⟩ := pairs_mem (names_up n) h1
      have a3' : decide (r.1.cps.toList < r.2.1.cps.toList) = true := by
        have : tlt r.1 r.2.1 = true := a3
        unfold tlt at this
        rwa [show PySem.W.dataLt (toD r.1) (toD r.2.1) = decide (r.1.cps.toList < r.2.1.cps.toList) from PySem.W.dataLt_str _ _] at this
      show (isWholeD (.int r.2.2) 1 9 && (isPoolD (names6.take n) (.str r.1) && (isPoolD (names6.take n) (.str r.2.1) && ltD (.str r.1) (.str r.2.1)))) = true
      simp only [isWholeD, isPoolD, ltD, Bool.and_eq_true]
      exact ⟨⟨decide_eq_true h3, decide_eq_true h9⟩, decide_eq_true a1, decide_eq_true a2, a3'⟩
    · have e : (rs'.map rgT).map cut2 = (rs'.map fun r => (r.1, r.2.1)).map toD := by rw [List.map_map, List.map_map]; rfl
      rw [e]
      exact pw_rise (List.pairwise_map.mpr hp)
  · injection e with e
    injection e with e1 e
    injection e1 with e1
    rw [← e1] at hz
    obtain ⟨z', hz', e2⟩ := List.mem_map.mp hz
    injection e2 with e2
    exact e2 ▸ (hw z' hz').2
theorem Dsh.good {n high : Nat} {s : Sh} (d : Dsh n high s) (hh : high ≤ 10) : Good s := by
  have := (shOf_eq (d.facts hh).1).2
  rwa [shOf_shT'] at this
end LP
/-! S3: all lots. -/
namespace LP
open PySem PySem.Spec PyProof.Rows L2 DL
/-! ### the search, plain -/
structure Dfs (s : Sh) (h : Int) (p : Str) (ex : Str → Prop) (lot work : List Str) : Prop where
  nd : lot.Nodup
  mem : p ∈ lot
  conn : ∀ a ∈ lot, Conn s h p a
  sub : ∀ a ∈ work, a ∈ lot
  out : ∀ a b c, (a, b, c) ∈ s.2 → c ≤ h → (a ∈ lot → a ∉ work → ¬ ex a → b ∈ lot) ∧ (b ∈ lot → b ∉ work → ¬ ex b → a ∈ lot)
section
variable {s : Sh} {h : Int} {p : Str} {ex : Str → Prop} {lot work : List Str}
theorem Dfs.len (d : Dfs s h p ex lot work) (g : Good s) (hp : p ∈ s.1) : lot.length ≤ 6 :=
  Nat.le_trans (nodup_len d.nd fun a ha => (d.conn a ha).mem g hp) g.six
theorem Dfs.start : Dfs s h p (fun _ => False) [p] [p] where
  nd := by simp
  mem := by simp
  conn a ha := by rw [List.mem_singleton.mp ha]; exact .refl p
  sub a ha := ha
  out a b c _ _ := ⟨fun h1 h2 => absurd h1 h2, fun h1 h2 => absurd h1 h2⟩
theorem Dfs.push (d : Dfs s h p ex lot work) {x : Str} (hx : x ∉ lot) (c : Conn s h p x) : Dfs s h p ex (lot ++ [x]) (work ++ [x]) where
  nd := List.nodup_append.mpr ⟨d.nd, by simp, fun a ha b hb => by rw [List.mem_singleton.mp hb]; exact fun e => hx (e ▸ ha)⟩
  mem := List.mem_append_left _ d.mem
  conn a ha := by
    rcases List.mem_append.mp ha with h | h
    · exact d.conn a h
    · rw [List.mem_singleton.mp h]; exact c
  sub a ha := by
    rcases List.mem_append.mp ha with h | h
    · exact List.mem_append_left _ (d.sub a h)
    · exact List.mem_append_right _ h
  out a b cc h1 h2 := by
    have o := d.out a b cc h1 h2
    have w : ∀ y, y ∈ lot ++ [x] → y ∉ work ++ [x] → y ∈ lot ∧ y ∉ work := fun y h1 h2 => by
      rw [List.mem_append, not_or] at h2
      rcases List.mem_append.mp h1 with h | h
      · exact ⟨h, h2.1⟩
      · exact absurd h h2.2
    exact ⟨fun ha hb hc => List.mem_append_left _ (o.1 (w a ha hb).1 (w a ha hb).2 hc), fun ha hb hc => List.mem_append_left _ (o.2 (w b ha hb).1 (w b ha hb).2 hc)⟩
theorem Dfs.pop {here : Str} (d : Dfs s h p (fun _ => False) lot (work ++ [here])) : Dfs s h p (fun x => x = here) lot work where
  nd := d.nd
  mem := d.mem
  conn := d.conn
  sub a ha := d.sub a (List.mem_append_left _ ha)
  out a b c h1 h2 := by
    have o := d.out a b c h1 h2
    have w : ∀ y, y ∉ work → ¬ y = here → y ∉ work ++ [here] := fun y h1 h2 q => by
      rcases List.mem_append.mp q with h | h
      · exact h1 h
      · exact h2 (List.mem_singleton.mp h)
    exact ⟨fun ha hb hc => o.1 ha (w a hb hc) (fun h => h), fun ha hb hc => o.2 ha (w b hb hc) (fun h => h)⟩
theorem Dfs.done {here : Str} (d : Dfs s h p (fun x => x = here) lot work) (hn : ∀ a b c, (a, b, c) ∈ s.2 → c ≤ h → (a = here → b ∈ lot) ∧ (b = here → a ∈ lot)) : Dfs s h p (fun _ => False) lot work where
  nd := d.nd
  mem := d.mem
  conn := d.conn
  sub := d.sub
  out a b c h1 h2 := by
    have o := d.out a b c h1 h2
    have n := hn a b c h1 h2
    refine ⟨fun ha hb _ => ?_, fun ha hb _ => ?_⟩
    · by_cases e : a = here
      · exact n.1 e
      · exact o.1 ha hb e
    · by_cases e : b = here
      · exact n.2 e
      · exact o.2 ha hb e
theorem Dfs.fin (d : Dfs s h p (fun _ => False) lot []) (g : Good s) (hp : p ∈ s.1) : tsort lot = lotOf s h p :=
  lot_sorted g hp d.nd d.mem d.conn fun a b c h1 h2 => ⟨fun ha => (d.out a b c h1 h2).1 ha (by simp) fun h => h, fun hb => (d.out a b c h1 h2).2 hb (by simp) fun h => h⟩
end
/-- those next to here by a ridge -/
def nextOf (here : Str) (r : Rg) : List Str := if r.1 = here then [r.2.1] else if r.2.1 = here then [r.1] else []
/-! ### the walk -/
abbrev tpT (l : List Str) : D := .tuple (l.map .str)
abbrev eA (s : Sh) (h : Int) (f l : List D) (a4 a5 a6 a7 a8 a9 a10 a11 : Sl) : DL.Env := [.dat (shT s), .dat (.int h), .own f, .own l, a4, a5, a6, a7, a8, a9, a10, a11]
def Out1 (s : Sh) (h : Int) (m : Nat) (ρ : DL.Env) : Prop := ∃ (found : List (List Str)) (left : List Str) (f l : List D) (n : Nat) (a4 a5 a6 a7 a8 a9 a10 a11 : Sl), ρ = eA s h f l a4 a5 a6 a7 a8 a9 a10 a11 ∧ f = found.map tpT ∧ l = left.map .str ∧ m = left.length ∧ left.length ≤ n ∧ left.length ≤ 6 ∧
  (∀ a ∈ left, a ∈ s.1) ∧ found.length + left.length ≤ 6 ∧ (∀ l ∈ found, l ≠ []) ∧ found ++ lotsFrom s h n left = lotsFrom s h s.1.length s.1
def In1 (s : Sh) (h : Int) (p : Str) (f l : List D) (m : Nat) (ρ : DL.Env) : Prop := ∃ (lot work : List Str) (lo wo : List D) (a6 a7 a8 a9 a10 a11 : Sl), ρ = eA s h f l (.own lo) (.own wo) a6 a7 a8 a9 a10 a11 ∧ lo = lot.map .str ∧ wo = work.map .str ∧
  Dfs s h p (fun _ => False) lot work ∧ 2 * (6 - lot.length) + work.length ≤ m ∧ m ≤ 12
def In2 (s : Sh) (h : Int) (p here : Str) (f l : List D) (m i : Nat) (ρ : DL.Env) : Prop := ∃ (lot work : List Str) (lo wo : List D) (a7 a8 a9 a10 a11 : Sl), ρ = eA s h f l (.own lo) (.own wo) (.dat (.str here)) a7 a8 a9 a10 a11 ∧ lo = lot.map .str ∧ wo = work.map .str ∧
  Dfs s h p (fun x => x = here) lot work ∧ here ∈ lot ∧ 2 * (6 - lot.length) + work.length ≤ m ∧ ∀ r ∈ s.2.take i, r.2.2 ≤ h → ∀ x ∈ nextOf here r, x ∈ lot
def In3 (s : Sh) (h : Int) (p here : Str) (f l : List D) (m i : Nat) (r : Rg) (j : Nat) (ρ : DL.Env) : Prop := ∃ (lot work : List Str) (lo wo : List D) (a10 a11 : Sl), ρ = eA s h f l (.own lo) (.own wo) (.dat (.str here)) (.dat (.str r.1)) (.dat (.str r.2.1)) (.dat (.int r.2.2)) a10 a11 ∧ lo = lot.map .str ∧ wo = work.map .str ∧
  Dfs s h p (fun x => x = here) lot work ∧ here ∈ lot ∧ 2 * (6 - lot.length) + work.length ≤ m ∧ (∀ r ∈ s.2.take i, r.2.2 ≤ h → ∀ x ∈ nextOf here r, x ∈ lot) ∧ (r.2.2 ≤ h → ∀ x ∈ (nextOf here r).take j, x ∈ lot)
def In0 (s : Sh) (h : Int) (p : Str) (f l : List D) (ρ : DL.Env) : Prop := ∃ (lot : List Str) (lo : List D) (a5 a6 a7 a8 a9 a10 a11 : Sl), ρ = eA s h f l (.own lo) a5 a6 a7 a8 a9 a10 a11 ∧ lo = lot.map .str ∧ Dfs s h p (fun _ => False) lot []
theorem next_conn {s : Sh} {h : Int} {p here x : Str} {r : Rg} (c : Conn s h p here) (hr : r ∈ s.2) (hh : r.2.2 ≤ h) (hx : x ∈ nextOf here r) : Conn s h p x := by
  unfold nextOf at hx
  by_cases e1 : r.1 = here
  · rw [if_pos e1] at hx
    rw [List.mem_singleton.mp hx]
    exact .fwd (e1 ▸ c) hr hh
  · rw [if_neg e1] at hx
    by_cases e2 : r.2.1 = here
    · rw [if_pos e2] at hx
      rw [List.mem_singleton.mp hx]
      exact .bwd (e2 ▸ c) hr hh
    · rw [if_neg e2] at hx; cases hx
section
variable {P : Program} {w : World} {K : PySem.W.Frag} {mg : Str → Option Value} {base : Heap}
abbrev spLots (K : PySem.W.Frag) (mg : Str → Option Value) : Sp := spD K mg (α := Sh × Int) (fun a => [shT a.1, .int a.2]) (fun a => Good a.1) (fun a => .ok (.list ((allLots a.1 a.2).map toD)))
theorem k_all_lots (T : Tx K mg) : DefOk P w K mg base 1 "all_lots" p_all_lots (spLots K mg) := by
  refine T.d_all_lots.ok sc_all_lots (fun _ => rfl) fun ⟨s, h⟩ g f cdv A outer sh H G E hr tk hp => ?_
  have bt := T.bt
  have nd := sc_all_lots.nd
  have g : Good s := g
  refine ds_parL (i := 2) (j := 3) (l1 := []) (l2 := s.1.map .str) (dl_lst da_nil) (listT bt (de_ix ix_tup (od_ixT rfl) (v 0) de_int)) ?_ rfl nd
  refine ds_while (Out1 s h) s.1.length (Out1 s h 0) ⟨[], s.1, [], _, s.1.length, _, _, _, _, _, _, _, _, rfl, rfl, rfl, rfl, Nat.le_refl _, g.six, fun _ h => h, by simpa using g.six, (by simp), rfl⟩ ?_ ?_ hp
  · rintro m ρ' ⟨found, left, f, l, n, a4, a5, a6, a7, a8, a9, a10, a11, rfl, rfl, rfl, rfl, hn, hl6, hls, hfl, hne, heq⟩
    refine ⟨_, neNil hr (plainAll_strs left) (vo 3), fun hb => ?_, fun hb => ?_⟩
    · cases left with
      | nil => cases hb
      | cons p left =>
        cases n with
        | zero => cases hn
        | succ n =>
          have hpm : p ∈ s.1 := hls p List.mem_cons_self
          refine ds_parL2 (i := 4) (j := 5) (ds1 := [.str p]) (ds2 := [.str p]) (dl_lst (da_cons (de_ixR atI_zero (vo 3) de_int) da_nil)) (dl_lst (da_cons (de_ixR atI_zero (vo 3) de_int) da_nil)) ?_ rfl nd
          refine ds_while (In1 s h p (found.map tpT) ((p :: left).map .str)) 12 (In0 s h p (found.map tpT) ((p :: left).map .str)) ⟨[p], [p], _, _, _, _, _, _, _, _, rfl, rfl, rfl, Dfs.start, by simp, Nat.le_refl _⟩ ?_ ?_ hp
          · rintro m ρ' ⟨lot, work, lo, wo, a6, a7, a8, a9, a10, a11, rfl, rfl, rfl, dfs, hm, hm12⟩
            refine ⟨_, neNil hr (plainAll_strs work) (vo 5), fun hb => ?_, fun hb => ?_⟩
            · rcases List.eq_nil_or_concat work with e | ⟨w', here, e⟩
              · subst e; cases hb
              · rw [List.concat_eq_append] at e
                subst e
                refine ds_pop (i := 5) (j := 6) (d := .str here) rfl (by simp) ?_ nd
                rw [show ((w' ++ [here]).map PyData.str).dropLast = w'.map .str by simp]
                have hlen := dfs.len g hpm
                have hhere : here ∈ lot := dfs.sub here (by simp)
                refine ds_for (items := s.2.map rgT) (fun i ρ' => i ≤ s.2.length ∧ In2 s h p here (found.map tpT) ((p :: left).map .str) (m - 1) i ρ') (In2 s h p here (found.map tpT) ((p :: left).map .str) (m - 1) s.2.length) (di_tup (de_ix ix_tup (od_ixT rfl) (v 0) de_int)) ⟨Nat.zero_le _, lot, w', _, _, _, _, _, _, _, rfl, rfl, rfl, dfs.pop, hhere, by simp at hm; omega, fun r hr => by simp at hr⟩ ?_ (fun ρ' h => by rw [List.length_map] at h; exact h.2) ?_ hp rfl
                · rintro i d ρ' hd ⟨hi, lot, work, lo, wo, a7, a8, a9, a10, a11, rfl, rfl, rfl, dfs, hhere, hm2, hnx⟩
                  rw [List.getElem?_map] at hd
                  cases hr2 : s.2[i]? with
                  | none => rw [hr2] at hd; cases hd
                  | some r =>
                    rw [hr2] at hd
                    cases hd
                    have hil : i < s.2.length := (List.getElem?_eq_some_iff.mp hr2).1
                    have hrm : r ∈ s.2 := List.mem_of_getElem? hr2
                    have htk : s.2.take (i + 1) = s.2.take i ++ [r] := by rw [List.take_add_one, hr2]; rfl
                    refine ⟨_, _, dg_tup rfl (dgs_cons (dg_name (i := 7) nd) (dgs_cons (dg_name (i := 8) nd) (dgs_cons (dg_name (i := 9) nd) dgs_nil))), ?_⟩
                    refine ds_for (items := (nextOf here r).map .str) (fun j ρ' => In3 s h p here (found.map tpT) ((p :: left).map .str) (m - 1) i r j ρ') (In3 s h p here (found.map tpT) ((p :: left).map .str) (m - 1) i r (nextOf here r).length) (di_list (dl_e (dl_to (dl_if (eqS hr (v 7) (v 6)) (fun _ => dl_lst (da_cons (v 8) da_nil)) (fun _ => dl_if (eqS hr (v 8) (v 6)) (fun _ => dl_lst (da_cons (v 7) da_nil)) fun _ => dl_lst da_nil)) ?_))) ⟨lot, work, _, _, _, _, rfl, rfl, rfl, dfs, hhere, hm2, hnx, fun _ x hx => by simp at hx⟩ ?_ (fun ρ' h => by rw [List.length_map] at h; exact h) ?_ hp rfl
                    · unfold nextOf
                      by_cases e1 : r.1 = here
                      · rw [if_pos (decide_eq_true e1), if_pos e1]; rfl
                      · rw [if_neg (by rw [decide_eq_true_eq]; exact e1), if_neg e1]
                        by_cases e2 : r.2.1 = here
                        · rw [if_pos (decide_eq_true e2), if_pos e2]; rfl
                        · rw [if_neg (by rw [decide_eq_true_eq]; exact e2), if_neg e2]; rfl
                    · rintro jj d ρ' hd ⟨lot, work, lo, wo, a10, a11, rfl, rfl, rfl, dfs, hhere, hm2, hnx, hnj⟩
                      rw [List.getElem?_map] at hd
                      cases hx2 : (nextOf here r)[jj]? with
                      | none => rw [hx2] at hd; cases hd
                      | some x =>
                        rw [hx2] at hd
                        cases hd
                        have hxm : x ∈ nextOf here r := List.mem_of_getElem? hx2
                        have hxk : (nextOf here r).take (jj + 1) = (nextOf here r).take jj ++ [x] := by rw [List.take_add_one, hx2]; rfl
                        have hlen := dfs.len g hpm
                        refine ⟨_, _, dg_name (i := 10) nd, ?_⟩
                        refine ds_if (In3 s h p here (found.map tpT) ((p :: left).map .str) (m - 1) i r (jj + 1)) (dt_w (dw_and (leI (v 9) (v 1)) fun hc => dw_and1 (dt_cmpR (op_ninP hr.units) (od_inR (plainAll_strs lot) rfl (.inl (depthAll_strs lot))) (v 10) (vo 4)))) (fun hb => ?_) (fun hb => ?_) (fun ρ' h => ds_nil h)
                        · rw [Bool.and_eq_true, decide_eq_true_eq, if_pos rfl, any_str, Bool.not_eq_true', decide_eq_false_iff_not] at hb
                          obtain ⟨hc, hxl⟩ := hb
                          have cx : Conn s h p x := next_conn (dfs.conn here hhere) hrm hc hxm
                          have d2 := dfs.push hxl cx
                          have hlen2 := d2.len g hpm
                          rw [List.length_append, List.length_singleton] at hlen2
                          refine ds_app (i := 4) (ds := lot.map .str) rfl (v 10) (by rw [List.length_map]; omega) (ds_app (i := 5) (ds := work.map .str) rfl (v 10) (by rw [List.length_map]; omega) (ds_nil ?_))
                          refine ⟨lot ++ [x], work ++ [x], _, _, _, _, rfl, (by rw [List.map_append]; rfl), (by rw [List.map_append]; rfl), d2, List.mem_append_left _ hhere, (by simp only [List.length_append, List.length_singleton]; omega), fun r hr hc y hy => List.mem_append_left _ (hnx r hr hc y hy), fun hc y hy => ?_⟩
                          rw [hxk] at hy
                          rcases List.mem_append.mp hy with hy | hy
                          · exact List.mem_append_left _ (hnj hc y hy)
                          · exact List.mem_append_right _ hy
                        · refine ds_nil ⟨lot, work, _, _, _, _, rfl, rfl, rfl, dfs, hhere, hm2, hnx, fun hc y hy => ?_⟩
                          rw [hxk] at hy
                          rcases List.mem_append.mp hy with hy | hy
                          · exact hnj hc y hy
                          · rw [List.mem_singleton.mp hy]
                            rw [if_pos rfl, any_str, decide_eq_true hc, Bool.true_and, Bool.not_eq_false', decide_eq_true_eq] at hb
                            exact hb
                    · rintro ρ' ⟨lot, work, lo, wo, a10, a11, rfl, rfl, rfl, dfs, hhere, hm2, hnx, hnj⟩
                      refine ds_nil ⟨hil, lot, work, _, _, _, _, _, _, _, rfl, rfl, rfl, dfs, hhere, hm2, fun r' hr' hc y hy => ?_⟩
                      rw [htk] at hr'
                      rcases List.mem_append.mp hr' with hr' | hr'
                      · exact hnx r' hr' hc y hy
                      · rw [List.mem_singleton.mp hr'] at hc hy
                        exact hnj hc y (by rw [List.take_length]; exact hy)
                · rintro ρ' ⟨lot, work, lo, wo, a7, a8, a9, a10, a11, rfl, rfl, rfl, dfs, hhere, hm2, hnx⟩
                  refine ds_nil ⟨m - 1, by have : 0 < m := by simp at hm; omega
                                           omega, lot, work, _, _, _, _, _, _, _, _, rfl, rfl, rfl, dfs.done ?_, hm2, by omega⟩
                  intro a b c h1 h2
                  have := hnx (a, b, c) (by rw [List.take_length]; exact h1) h2
                  unfold nextOf at this
                  constructor
                  · intro e
                    exact this b (by rw [if_pos (show (a, b, c).1 = here from e)]; exact List.mem_singleton.mpr rfl)
                  · intro e
                    by_cases e1 : a = here
                    · rw [e1]; exact hhere
                    · exact this a (by rw [if_neg (show ¬ (a, b, c).1 = here from e1), if_pos (show (a, b, c).2.1 = here from e)]; exact List.mem_singleton.mpr rfl)
            · cases work with
              | nil => exact ⟨lot, _, _, a6, a7, a8, a9, a10, a11, rfl, rfl, dfs⟩
              | cons x r => cases hb
          · rintro ρ' ⟨lot, lo, a5, a6, a7, a8, a9, a10, a11, rfl, rfl, dfs⟩
            have hlot := dfs.fin g hpm
            refine ds_app (i := 2) (ds := found.map tpT) (d := tpT (lotOf s h p)) rfl (tupleR bt (dr_to (dl_r (sortedR bt hr (alike_ty lot) (PySem.W.Sortable.others (enc := PyData.str) fun b => ⟨fun e => (by cases e), fun xs e => (by cases e)⟩) (fun d hd => (nn_ty (by decide) lot d hd).2) (vo 4))) (by rw [strs_toD, dsort_ty, hlot]))) (by rw [List.length_map]; rw [List.length_cons] at hfl; omega) ?_
            refine ds_settle 3 rfl ?_
            refine ds_setLc (i := 3) (own := [("pool", 11)]) (xs := p :: left) (enc := PyData.str) (fun q => decide (q ∉ lotOf s h p)) PyData.str rfl nd (di_list (v 3)) (blkOk_by (N := n_all_lots) (sc := defScope s_all_lots) (by decide +kernel)) (by omega) (fun x hx => ?_) ?_ (sw_true rfl rfl rfl rfl)
            · refine ⟨_, _, fun j h => h, fun s H C cl fp => ⟨dg_name nd, dts_one (dt_to (dt_cmpR (op_ninP hr.units) (od_inR (plainAll_strs lot) rfl (.inl (depthAll_strs lot))) (v 11) (vo 4)) ?_), fun _ => v 11⟩⟩
              rw [if_pos rfl, any_str, ← decide_not]
              exact decide_eq_decide.mpr (not_congr (by rw [← hlot, tsort_mem]))
            · have hll := left_less (h := h) g hls
              refine ds_nil ⟨_, by rw [List.length_cons]; exact Nat.lt_succ_of_le hll, found ++ [lotOf s h p], _, _, _, n, _, _, _, _, _, _, _, _, rfl, by rw [List.map_append]; rfl, rfl, rfl, Nat.le_trans hll (by rw [List.length_cons] at hn; omega), by rw [List.length_cons] at hl6; omega, fun a ha => hls a (List.mem_filter.mp ha).1, by rw [List.length_append, List.length_singleton]; rw [List.length_cons] at hfl; omega, fun l hl => ?_, by rw [List.append_assoc, ← heq]; rfl⟩
              rcases List.mem_append.mp hl with hl | hl
              · exact hne l hl
              · rw [List.mem_singleton.mp hl]
                exact fun e => by have := mem_lotOf.mpr ⟨hpm, Conn.refl (s := s) (h := h) p⟩; rw [e] at this; cases this
    · cases left with
      | nil => exact ⟨found, [], _, _, n, a4, a5, a6, a7, a8, a9, a10, a11, rfl, rfl, rfl, rfl, hn, hl6, hls, hfl, hne, heq⟩
      | cons p left => cases hb
  · rintro ρ' ⟨found, left, f, l, n, a4, a5, a6, a7, a8, a9, a10, a11, rfl, rfl, rfl, hm, hn, hl6, hls, hfl, hne, heq⟩
    have hl0 : left = [] := List.length_eq_zero_iff.mp hm.symm
    subst hl0
    have heq2 : found = lotsFrom s h s.1.length s.1 := by
      rw [← heq]
      cases n <;> simp [lotsFrom]
    have hrows : found.map tpT = (rows found).map toD := by unfold rows; rw [List.map_map]; rfl
    refine ds_ret (dl_e (sortedR bt hr (xs := found.map tpT) (by rw [hrows]; exact alike_ty (rows found)) (.inl fun d hd => ?_) (fun d hd => by rw [hrows] at hd; exact (nn_ty (by decide) (rows found) d hd).2) (vo 2))) ?_
    · obtain ⟨l, hl, rfl⟩ := List.mem_map.mp hd
      cases l with
      | nil => exact absurd rfl (hne _ hl)
      | cons x r => exact ⟨_, _, rfl⟩
    · show Out.ok _ = Out.ok _
      rw [hrows, dsort_ty, heq2]
      rfl
end
end LP
/-! S4: least heights, pairs of shores, nights. -/
namespace LP
open PySem PySem.Spec PyProof.Rows L2 DL
section
variable {P : Program} {w : World} {K : PySem.W.Frag} {mg : Str → Option Value} {base : Heap}
theorem lots_len {s : Sh} {h : Int} (g : Good s) : (allLots s h).length ≤ 6 := by
  refine Nat.le_trans (nodup_len (pw_nodup (allLots_up g)) (ys := s.1.map fun p => ⟨lotOf s h p⟩) fun l hl => ?_) (by rw [List.length_map]; exact g.six)
  obtain ⟨p, hp, rfl⟩ := (mem_allLots g).mp hl
  exact List.mem_map.mpr ⟨p, hp, rfl⟩
abbrev spOne (K : PySem.W.Frag) (mg : Str → Option Value) : Sp := spD K mg (α := Sh × Int × Str × Str) (fun a => [shT a.1, .int a.2.1, .str a.2.2.1, .str a.2.2.2]) (fun a => Good a.1) (fun a => .ok (.bool (areOneB a.1 a.2.1 a.2.2.1 a.2.2.2)))
theorem k_are_one (T : Tx K mg) : DefOk P w K mg base 2 "are_one" p_are_one (spOne K mg) := by
  refine T.d_are_one.ok sc_are_one (fun _ => rfl) fun ⟨s, h, a, b⟩ g f cdv A outer sh H G E hr tk hp => ?_
  have bt := T.bt
  have g : Good s := g
  have kL := k_all_lots (P := P) (w := w) (base := base) T
  refine ds_ret (anyC (xs := allLots s h) (enc := toD) (own := [("lot", 4)]) (fun l => decide (a ∈ l.items) && decide (b ∈ l.items)) bt rfl sc_are_one.nd (di_list (de_call kL (s, h) hr (da_cons (v 0) (da_cons (v 1) da_nil)) g rfl rfl)) (blkOk_by (N := n_are_one) (sc := defScope s_are_one) (by decide +kernel)) (Nat.le_trans (lots_len g) (by decide)) fun l hl => ?_) ?_
  · exact ⟨_, _, fun j h => h, fun s H C cl fp => ⟨dg_name sc_are_one.nd, dts_nil, fun _ => de_and (de_to (de_cmp (op_inP hr.units) (od_inP (plainAll_strs l.items) rfl (.inl (depthAll_strs l.items))) (v 2) (v 4)) (by rw [if_neg Bool.false_ne_true, any_str])) fun _ => de_one (de_to (de_cmp (op_inP hr.units) (od_inP (plainAll_strs l.items) rfl (.inl (depthAll_strs l.items))) (v 3) (v 4)) (by rw [if_neg Bool.false_ne_true, any_str]))⟩⟩
  · show Out.ok _ = Out.ok _
    rw [any_lots g]
abbrev spLeast (K : PySem.W.Frag) (mg : Str → Option Value) : Sp := spD K mg (α := Sh × Str × Str) (fun a => [shT a.1, .str a.2.1, .str a.2.2]) (fun a => Good a.1) (fun a => .ok (optD (leastO a.1 a.2.1 a.2.2)))
theorem k_least_from (T : Tx K mg) : DefOk P w K mg base 3 "least_from" p_least_from (spLeast K mg) := by
  refine T.d_least_from.ok sc_least_from (fun _ => rfl) fun ⟨s, a, b⟩ g f cdv A outer sh H G E hr tk hp => ?_
  have bt := T.bt
  have g : Good s := g
  have nd := sc_least_from.nd
  have kO := k_are_one (P := P) (w := w) (base := base) T
  obtain ⟨t9, m9⟩ := T.c_HIGHEST
  refine ds_setLc (i := 3) (own := [("height", 4)]) (xs := List.range 10) (enc := fun i => .int (i : Nat)) (fun k => areOneB s (k : Int) a b) (fun i => .int (i : Nat)) rfl nd (di_to (range1 (n := 9 + 1) bt (de_bin op_add od_add (de_glob rfl m9) de_int) (by decide)) rfl) (blkOk_by (N := n_least_from) (sc := defScope s_least_from) (by decide +kernel)) (by rw [List.length_range]; decide) (fun k hk => ?_) ?_ (sw_true rfl rfl rfl rfl)
  · exact ⟨_, _, fun j h => h, fun s' H C cl fp => ⟨dg_name nd, dts_one (dt_val (de_call kO (s, (k : Int), a, b) hr (da_cons (v 0) (da_cons (v 4) (da_cons (v 1) (da_cons (v 2) da_nil)))) g rfl rfl)), fun _ => v 4⟩⟩
  · refine ds_ret (de_ifS (d := optD (leastO s a b)) (neNil (xs := ((List.range 10).filter fun k : Nat => areOneB s (k : Int) a b).map fun i => .int (i : Nat)) hr (by rw [show (fun i : Nat => PyData.int (i : Nat)) = toD ∘ (fun i : Nat => (i : Int)) from rfl, ← List.map_map]; exact pl_ty _) (vo 3)) (fun h => ?_) fun h => ?_) (by rfl)
    · have hh := List.head?_filter (p := fun k : Nat => areOneB s (k : Int) a b) (l := List.range 10)
      cases q : (List.range 10).filter fun k : Nat => areOneB s (k : Int) a b with
      | nil => rw [q] at h; cases h
      | cons k r =>
        rw [q] at hh
        rw [leastO, ← hh]
        exact de_ixR atI_zero (vo 3) de_int
    · have hh := List.head?_filter (p := fun k : Nat => areOneB s (k : Int) a b) (l := List.range 10)
      cases q : (List.range 10).filter fun k : Nat => areOneB s (k : Int) a b with
      | nil =>
        rw [q] at hh
        rw [leastO, ← hh]
        exact de_non
      | cons k r => rw [q] at h; cases h
/-! ### pairs -/
def poolsD : D → D
  | .tuple (p :: _) => p
  | _ => .none
def isTwo (d e : D) : Bool := isShoreD d && (isShoreD e && PyData.eqv (poolsD d) (poolsD e))
theorem poolsD_shore {d : D} (h : isShoreD d = true) : poolsD d = strsD (shOf d).1 := (congrArg poolsD (shOf_eq h).1).symm
abbrev spNeedTwo (K : PySem.W.Frag) (mg : Str → Option Value) : Sp := spD K mg (α := D × D) (fun a => [a.1, a.2]) (fun a => tameShore a.1 ∧ tameShore a.2) (fun a => if isTwo a.1 a.2 then .ok .none else .err "BadShore")
def Fst1 (s t : Sh) (i : Nat) (ρ : DL.Env) : Prop := ∃ a3 a4 a5, ρ = [.dat (shT s), .dat (shT t), .dat (strsD s.1), a3, a4, a5] ∧ ∀ z ∈ (s.1.zipIdx.take i).flatMap (fun z => (s.1.drop (z.2 + 1)).map fun b => (z.1, b)), leastO s z.1 z.2 = leastO t z.1 z.2
def Fst2 (s t : Sh) (i : Nat) (x : Str) (j : Nat) (ρ : DL.Env) : Prop := ∃ a5, ρ = [.dat (shT s), .dat (shT t), .dat (strsD s.1), .dat (.int (i : Nat)), .dat (.str x), a5] ∧ (∀ z ∈ (s.1.zipIdx.take i).flatMap (fun z => (s.1.drop (z.2 + 1)).map fun b => (z.1, b)), leastO s z.1 z.2 = leastO t z.1 z.2) ∧ ∀ b ∈ (s.1.drop (i + 1)).take j, leastO s x b = leastO t x b
theorem pairs_split (ps : List Str) {i j : Nat} {x y : Str} (h1 : ps[i]? = some x) (h2 : (ps.drop (i + 1))[j]? = some y) :
    ∃ r, pairsOf ps = (ps.zipIdx.take i).flatMap (fun z => (ps.drop (z.2 + 1)).map fun b => (z.1, b)) ++ (((ps.drop (i + 1)).take j).map (fun b => (x, b)) ++ (x, y) :: r) := by
  have e1 : ps.zipIdx = ps.zipIdx.take i ++ (x, i) :: ps.zipIdx.drop (i + 1) := by
    have hz : ps.zipIdx[i]? = some (x, i) := by rw [List.getElem?_zipIdx, h1]; simp
    have := List.take_append_drop i ps.zipIdx
    rw [List.drop_eq_getElem?_toList_append, hz] at this
    exact this.symm
  have e2 : ps.drop (i + 1) = (ps.drop (i + 1)).take j ++ y :: (ps.drop (i + 1)).drop (j + 1) := by
    have := List.take_append_drop j (ps.drop (i + 1))
    rw [List.drop_eq_getElem?_toList_append (i := j), h2] at this
    exact this.symm
  refine ⟨((ps.drop (i + 1)).drop (j + 1)).map (fun b => (x, b)) ++ (ps.zipIdx.drop (i + 1)).flatMap (fun z => (ps.drop (z.2 + 1)).map fun b => (z.1, b)), ?_⟩
  unfold pairsOf
  conv => lhs; rw [e1]
  rw [List.flatMap_append, List.flatMap_cons]
  congr 1
  show (ps.drop (i + 1)).map (fun b => (x, b)) ++ _ = _
  conv => lhs; rw [e2]
  rw [List.map_append, List.map_cons, List.append_assoc, List.cons_append]
abbrev spFirst (K : PySem.W.Frag) (mg : Str → Option Value) : Sp := spD K mg (α := Sh × Sh) (fun a => [shT a.1, shT a.2]) (fun a => Good a.1 ∧ Good a.2) (fun a => .ok (partD a.1 a.2))
end
end LP
/-! S5: parting, parting_counts, nights. -/
namespace LP
open PySem PySem.Spec PyProof.Rows L2 DL
theorem shOf_shT (s : Sh) : shOf (shT s) = s := by
  show (strsOf (s.1.map .str), (s.2.map rgT).filterMap rgOf) = s
  rw [strsOf_map, List.filterMap_map, show rgOf ∘ rgT = some from rfl, List.filterMap_some]
def intOf : D → Int
  | .int n => n
  | _ => 0
def cntOf : D → List Int
  | .tuple xs => xs.map intOf
  | _ => []
theorem whole_int {d : D} {lo hi : Int} (h : isWholeD d lo hi = true) : d = .int (intOf d) ∧ lo ≤ intOf d ∧ intOf d ≤ hi := by
  cases d with
  | int n =>
    simp only [isWholeD, Bool.and_eq_true, decide_eq_true_eq] at h
    exact ⟨rfl, h⟩
  | _ => cases h
theorem counts_of {ps : List Str} {d : D} (h : isCountsD ps d = true) : d = intsD (cntOf d) ∧ (cntOf d).length = ps.length ∧ ∀ n ∈ cntOf d, 0 ≤ n ∧ n ≤ 9 := by
  cases d with
  | tuple xs =>
    simp only [isCountsD, Bool.and_eq_true, decide_eq_true_eq, List.all_eq_true] at h
    refine ⟨?_, ?_, fun n hn => ?_⟩
    · show PyData.tuple xs = .tuple ((xs.map intOf).map .int)
      rw [List.map_map]
      congr 1
      refine ((List.map_congr_left fun x hx => ?_).trans (List.map_id xs)).symm
      exact (whole_int (h.2 x hx)).1.symm
    · show (xs.map intOf).length = _
      rw [List.length_map]; omega
    · obtain ⟨x, hx, rfl⟩ := List.mem_map.mp hn
      exact (whole_int (h.2 x hx)).2
  | _ => cases h
def minO : Option Nat → Option Nat → Int
  | some a, some b => if b < a then b else a
  | some a, none => a
  | none, some b => b
  | none, none => 0
def unitV (ps : List Str) (a : Str) : List Int := ps.map fun p => if p = a then 1 else 0
theorem minO_of {x y : Option Nat} (h : x ≠ y) : minO x y ∈ (([x, y].filter Option.isSome).map fun o => ((o.getD 0 : Nat) : Int)) ∧ ∀ z ∈ (([x, y].filter Option.isSome).map fun o => ((o.getD 0 : Nat) : Int)), minO x y ≤ z := by
  cases x with
  | none => cases y with
    | none => exact absurd rfl h
    | some b => simp [minO, Option.isSome, List.filter]
  | some a => cases y with
    | none => simp [minO, Option.isSome, List.filter]
    | some b =>
      by_cases q : b < a
      · simp [minO, Option.isSome, List.filter, q]; omega
      · simp [minO, Option.isSome, List.filter, q]; omega
noncomputable def partC (s t : Sh) : D := match firstPart s t with
  | none => .none
  | some z => .tuple [intsD (unitV s.1 z.1), intsD (unitV s.1 z.2), .int (minO (leastO s z.1 z.2) (leastO t z.1 z.2))]
section
variable {P : Program} {w : World} {K : PySem.W.Frag} {mg : Str → Option Value} {base : Heap}
theorem isTwo_of {d e : D} (h : isTwo d e = true) : ∃ s t, d = shT s ∧ e = shT t ∧ Good s ∧ Good t ∧ s.1 = t.1 ∧ shOf d = s ∧ shOf e = t := by
  unfold isTwo at h
  rw [Bool.and_eq_true, Bool.and_eq_true] at h
  obtain ⟨h1, h2, h3⟩ := h
  rw [poolsD_shore h1, poolsD_shore h2] at h3
  have e3 : PyData.eqv (toD (⟨(shOf d).1⟩ : TS)) (toD (⟨(shOf e).1⟩ : TS)) = true := h3
  rw [PySem.W.Datum.eqv, decide_eq_true_eq] at e3
  exact ⟨_, _, (shOf_eq h1).1.symm, (shOf_eq h2).1.symm, (shOf_eq h1).2, (shOf_eq h2).2, PySem.W.Tup.mk.inj e3, rfl, rfl⟩
abbrev spPart (K : PySem.W.Frag) (mg : Str → Option Value) : Sp := spD K mg (α := D × D) (fun a => [a.1, a.2]) (fun a => tameShore a.1 ∧ tameShore a.2) (fun a => if isTwo a.1 a.2 then .ok (partD (shOf a.1) (shOf a.2)) else .err "BadShore")
abbrev spPartC (K : PySem.W.Frag) (mg : Str → Option Value) : Sp := spD K mg (α := D × D) (fun a => [a.1, a.2]) (fun a => tameShore a.1 ∧ tameShore a.2) (fun a => if isTwo a.1 a.2 then .ok (partC (shOf a.1) (shOf a.2)) else .err "BadShore")
/-! ### nights -/
def bothErr (d b a : D) : Option Str := if isShoreD d then (if isCountsD (shOf d).1 b then (if isCountsD (shOf d).1 a then none else some "BadCounts") else some "BadCounts") else some "BadShore"
def outOf (o : Option Str) (d : D) : Out := match o with | some n => .err n | none => .ok d
abbrev spBoth (K : PySem.W.Frag) (mg : Str → Option Value) : Sp := spD K mg (α := D × D × D) (fun a => [a.1, a.2.1, a.2.2]) (fun a => tameShore a.1) (fun a => outOf (bothErr a.1 a.2.1 a.2.2) .none)
abbrev spIsCh (K : PySem.W.Frag) (mg : Str → Option Value) : Sp := spD K mg (α := (List Str × D) × List Int × List Int × List Str) (fun a => [shD a.1, intsD a.2.1, intsD a.2.2.1, strsD a.2.2.2]) (fun a => a.1.1.length ≤ 100000) (fun a => .ok (.bool (!decide (inLot a.1.1 a.2.1 a.2.2.2 = inLot a.1.1 a.2.2.1 a.2.2.2))))
abbrev spAllCh (K : PySem.W.Frag) (mg : Str → Option Value) : Sp := spD K mg (α := Sh × List Int × List Int × Int) (fun a => [shT a.1, intsD a.2.1, intsD a.2.2.1, .int a.2.2.2]) (fun a => Good a.1) (fun a => .ok (.list ((changed a.1 a.2.1 a.2.2.1 a.2.2.2).map toD)))
abbrev spFollows (K : PySem.W.Frag) (mg : Str → Option Value) : Sp := spD K mg (α := Sh × List Int × List Int × Int) (fun a => [shT a.1, intsD a.2.1, intsD a.2.2.1, .int a.2.2.2]) (fun a => Good a.1) (fun a => .ok (.bool (changed a.1 a.2.1 a.2.2.1 a.2.2.2).isEmpty))
noncomputable abbrev followO (d b a h : D) : Out := match bothErr d b a with
  | some n => .err n
  | none => if isWholeD h 0 9 then .ok (.bool (changed (shOf d) (cntOf b) (cntOf a) (intOf h)).isEmpty) else .err "BadHeight"
theorem bothErr_none {d b a : D} (h : bothErr d b a = none) : isShoreD d = true ∧ isCountsD (shOf d).1 b = true ∧ isCountsD (shOf d).1 a = true := by
  unfold bothErr at h
  split at h
  · split at h
    · split at h
      · exact ⟨by assumption, by assumption, by assumption⟩
      · cases h
    · cases h
  · cases h
abbrev spFollow (K : PySem.W.Frag) (mg : Str → Option Value) : Sp := spD K mg (α := D × D × D × D) (fun a => [a.1, a.2.1, a.2.2.1, a.2.2.2]) (fun a => tameShore a.1) (fun a => followO a.1 a.2.1 a.2.2.1 a.2.2.2)
end
end LP
/-! W6: the law's defs that make shores and counts. -/
namespace LP
open PySem PySem.Spec PyProof.Rows L2 DL L2H LamX LQ
theorem cutT {α : Type} (xs : List α) (n : Nat) : DL.cutD xs none (some (n : Int)) = xs.take n := by
  unfold DL.cutD
  rw [HT.sIx_none, show HT.sIx xs.length xs.length (some (n : Int)) = min n xs.length from HT.sIx_nat xs.length _ n, List.drop_zero, Nat.sub_zero]
  rcases Nat.le_total n xs.length with h | h
  · rw [Nat.min_eq_left h]
  · rw [Nat.min_eq_right h, List.take_of_length_le (Nat.le_refl _), List.take_of_length_le h]
section
variable {P : Program} {w : World} {K : PySem.W.Frag} {mg : Str → Option Value} {base : Heap}
abbrev resShore (high : Nat) (size : Nat) (d : D) : Prop := ∃ n s, d = shT s ∧ Dsh n high s ∧ n ≤ size
abbrev spAnyShore (K : PySem.W.Frag) (mg : Str → Option Value) : Sp := spDice K mg (α := Nat × Nat) (fun a => [.int a.1, .int a.2]) (fun a => 2 ≤ a.1 ∧ a.1 ≤ 6 ∧ a.2 ≤ 10) (fun a d => resShore a.2 a.1 d)
theorem k_any_shore (T : Tx K mg) : DefOk P w K mg base 4 "_law_any_shore" p__law_any_shore (spAnyShore K mg) := by
  refine T.d__law_any_shore.okD sc__law_any_shore (fun _ => rfl) fun ⟨size, high⟩ ⟨h2, h6, hh⟩ f cdv A outer s H G p E hr tk hp => ?_
  have h2 : 2 ≤ size := h2
  have h6 : size ≤ 6 := h6
  have hh : high ≤ 10 := hh
  have bt := T.bt
  have nd := sc__law_any_shore.nd
  have kR := (k_roll (P := P) (w := w) (base := base) T).mono (k := 3) (by decide)
  have kG := k_any_ridges (P := P) (w := w) (base := base) T
  refine dsx_set (i := 3) (S := fun d => ∃ j : Nat, j < size - 1 ∧ d = strsD (names6.take (2 + j))) (dx_slT (xs := names6.map .str) (Sb := fun d => ∃ j : Nat, j < size - 1 ∧ d = .int ((2 + j : Nat) : Int)) (fun x k => de_tup (da_cons de_str (da_cons de_str (da_cons de_str (da_cons de_str (da_cons de_str (da_cons de_str da_nil))))))) (dx_bin (Sa := fun d => d = .int 2) (Sb := resRoll (size - 1)) op_add (dx_of (fun _ _ => de_int) rfl) (dx_call (i := 0) (p := p) kR (size - 1) hr ⟨fun _ _ => rfl, fun _ _ _ _ => rfl⟩ (fun x k => da_cons (de_to (d := .int ((size : Int) - 1)) (de_bin op_sub od_sub (v 1) de_int) (by congr 1; omega)) da_nil) ⟨by omega, by omega⟩ (fun d h => h) (by rfl)) ?_) ?_) (fun d hd => ?_) nd
  · rintro da db rfl ⟨j, rfl, hj⟩
    exact ⟨.int (2 + (j : Int)), ⟨j, hj, by rw [Int.natCast_add]; rfl⟩, od_add⟩
  · rintro d ⟨j, hj, rfl⟩
    exact ⟨_, rfl, j, hj, by rw [cutT, ← List.map_take]; rfl⟩
  · obtain ⟨j, hj, rfl⟩ := hd
    refine dsx_ret (S := resShore high size) (dx_tup (Ss := fun l => ∃ r, l = [strsD (names6.take (2 + j)), r] ∧ RidgesOk (names6.take (2 + j)) high r) (dxs_imp (dxs_cons (Sa := fun d => d = strsD (names6.take (2 + j))) (dx_of (fun x k => v 3) rfl) (dxs_cons (Sa := fun d => RidgesOk (names6.take (2 + j)) high d) (dx_call (i := 0) (p := p) kG (names6.take (2 + j), high) hr ⟨fun _ _ => rfl, fun _ _ _ _ => rfl⟩ (fun x k => da_cons (v 3) (da_cons (v 2) da_nil)) ⟨?_, ?_, by omega⟩ (fun d h => h) (by rfl)) (dxs_nil (Ss := fun l => l = []) rfl))) fun l hl => ?_) ?_ ?_) ?_
    · rw [List.length_take]; exact Nat.le_trans (Nat.min_le_right _ _) (by decide)
    · exact pw_nodup (names_up _)
    · obtain ⟨d, r, rfl, rfl, d2, r2, rfl, hr2, rfl⟩ := hl
      exact ⟨d2, rfl, hr2⟩
    · rintro l ⟨r, rfl, _⟩; exact Nat.le_of_ble_eq_true rfl
    · rintro l ⟨r, rfl, rs, rfl, hrs⟩
      exact ⟨2 + j, (names6.take (2 + j), rs), rfl, ⟨by omega, by omega, rfl, rs, rfl, hrs⟩, by omega⟩
    · intro d x k hd
      exact ⟨hd, x, k, rfl⟩
abbrev resCounts (ps : List Str) (most : Nat) (d : D) : Prop := ∃ ns, d = intsD ns ∧ ns.length = ps.length ∧ ∀ n ∈ ns, 0 ≤ n ∧ n ≤ (most : Int)
theorem ints_of (Sm : Nat) : ∀ {l : List D}, (∀ d ∈ l, resRoll (Sm + 1) d) → ∃ ns : List Int, l = ns.map .int ∧ ∀ n ∈ ns, 0 ≤ n ∧ n ≤ (Sm : Int)
  | [], _ => ⟨[], rfl, fun n h => by cases h⟩
  | d :: l, h => by
    obtain ⟨j, rfl, hj⟩ := h d List.mem_cons_self
    obtain ⟨ns, rfl, hn⟩ := ints_of Sm fun d hd => h d (List.mem_cons_of_mem _ hd)
    refine ⟨(j : Int) :: ns, rfl, fun n hn2 => ?_⟩
    rcases List.mem_cons.mp hn2 with e | hn2
    · subst e; omega
    · exact hn n hn2
abbrev spAnyCounts (K : PySem.W.Frag) (mg : Str → Option Value) : Sp := spDice K mg (α := Sh × Nat) (fun a => [shT a.1, .int a.2]) (fun a => a.1.1.length ≤ 1000 ∧ a.2 ≤ 100) (fun a d => resCounts a.1.1 a.2 d)
end
end LP
/-! W7: counts that follow; the law's own lots. -/
namespace LP
open PySem PySem.Spec PyProof.Rows L2 DL L2H LamX LQ
/-! ### the law's search, plain -/
def ClosedL (s : Sh) (h : Int) (L : List Str) : Prop := ∀ r ∈ s.2, r.2.2 ≤ h → (r.1 ∈ L ↔ r.2.1 ∈ L)
structure WInv (s : Sh) (h : Int) (p : Str) (L : List Str) : Prop where
  nd : L.Nodup
  mem : p ∈ L
  conn : ∀ a ∈ L, Conn s h p a
theorem WInv.len {s : Sh} {h : Int} {p : Str} {L : List Str} (w : WInv s h p L) (g : Good s) (hp : p ∈ s.1) : L.length ≤ s.1.length := nodup_len w.nd fun a ha => (w.conn a ha).mem g hp
theorem WInv.fin {s : Sh} {h : Int} {p : Str} {L : List Str} (w : WInv s h p L) (g : Good s) (hp : p ∈ s.1) (c : ClosedL s h L) : tsort L = lotOf s h p :=
  lot_sorted g hp w.nd w.mem w.conn fun a b cc h1 h2 => c (a, b, cc) h1 h2
theorem WInv.push {s : Sh} {h : Int} {p : Str} {L : List Str} (w : WInv s h p L) {r : Rg} (hr : r ∈ s.2) (hh : r.2.2 ≤ h) (hx : ¬ (r.1 ∈ L ↔ r.2.1 ∈ L)) : WInv s h p (L ++ [if r.1 ∈ L then r.2.1 else r.1]) := by
  obtain ⟨a, b, c⟩ := r
  have key : (if a ∈ L then b else a) ∉ L ∧ Conn s h p (if a ∈ L then b else a) := by
    by_cases ha : a ∈ L
    · rw [if_pos ha]
      exact ⟨fun hb => hx ⟨fun _ => hb, fun _ => ha⟩, .fwd (w.conn a ha) hr hh⟩
    · rw [if_neg ha]
      have hb : b ∈ L := Classical.byContradiction fun hb => hx ⟨fun z => absurd z ha, fun z => absurd z hb⟩
      exact ⟨ha, .bwd (w.conn b hb) hr hh⟩
  refine ⟨List.nodup_append.mpr ⟨w.nd, by simp, fun x hx1 y hy => ?_⟩, List.mem_append_left _ w.mem, fun x hx1 => ?_⟩
  · rw [List.mem_singleton.mp hy]
    exact fun e => key.1 (e ▸ hx1)
  · rcases List.mem_append.mp hx1 with h1 | h1
    · exact w.conn x h1
    · rw [List.mem_singleton.mp h1]; exact key.2
abbrev eW (s : Sh) (h : Int) (p : Str) (L : List D) (a4 a5 a6 a7 : Sl) : DL.Env := [.dat (shT s), .dat (.int h), .dat (.str p), .own L, a4, a5, a6, a7]
def WO (s : Sh) (h : Int) (p : Str) (t : Nat) (ρ : DL.Env) : Prop := ∃ (L : List Str) (l : List D) (a4 a5 a6 a7 : Sl), ρ = eW s h p l a4 a5 a6 a7 ∧ l = L.map .str ∧ WInv s h p L ∧ (ClosedL s h L ∨ t + 1 ≤ L.length)
def WI (s : Sh) (h : Int) (p : Str) (t : Nat) (L0 : List Str) (i : Nat) (ρ : DL.Env) : Prop := ∃ (L : List Str) (l : List D) (a4 a5 a6 a7 : Sl), ρ = eW s h p l a4 a5 a6 a7 ∧ l = L.map .str ∧ WInv s h p L ∧
  ((L = L0 ∧ ∀ r ∈ s.2.take i, r.2.2 ≤ h → (r.1 ∈ L ↔ r.2.1 ∈ L)) ∨ (¬ ClosedL s h L0 ∧ L0.length < L.length))
section
variable {P : Program} {w : World} {K : PySem.W.Frag} {mg : Str → Option Value} {base : Heap}
abbrev spWith (K : PySem.W.Frag) (mg : Str → Option Value) : Sp := spD K mg (α := Sh × Int × Str) (fun a => [shT a.1, .int a.2.1, .str a.2.2]) (fun a => Good a.1 ∧ a.2.2 ∈ a.1.1) (fun a => .ok (strsD (lotOf a.1 a.2.1 a.2.2)))
open Classical in
theorem areOne_lot {s : Sh} {h : Int} {a b : Str} (ha : a ∈ s.1) : decide (b ∈ lotOf s h a) = areOneB s h a b := by
  unfold areOneB
  rw [decide_eq_decide, mem_lotOf]
  exact ⟨fun h => ⟨ha, h.1, h.2⟩, fun h => ⟨h.2.1, h.2.2⟩⟩
abbrev spFrom (K : PySem.W.Frag) (mg : Str → Option Value) : Sp := spD K mg (α := Sh × Str × Str) (fun a => [shT a.1, .str a.2.1, .str a.2.2]) (fun a => Good a.1 ∧ a.2.1 ∈ a.1.1) (fun a => .ok (.int (((leastO a.1 a.2.1 a.2.2).getD 10 : Nat) : Int)))
end
end LP
/-! W8: _law_any_after. -/
namespace LP
open PySem PySem.Spec PyProof.Rows L2 DL L2H LamX LQ
theorem ltI {X : Cx} {H0 : Bs} {ρ : DL.Env} {a b : Expr} {i j : Int} {pos : Pos} (ha : DE X H0 ρ a (.int i)) (hb : DE X H0 ρ b (.int j)) (hm : behindInMarks .Lt b = false := by first | exact nomark _ | rfl) : DT X H0 ρ (.Compare a [.Lt] [b] pos) (decide (i < j)) := dt_cmp op_lt od_lt ha hb hm
theorem at1 {ns : List Int} {i : Nat} (h : i < ns.length) : atI (ns.map PyData.int) (i : Int) = some (.int ns[i]) := (atI_nat (xs := ns.map PyData.int) (by rw [List.length_map]; exact h)).trans (by rw [List.getElem_map])
def NsOk (m : Nat) (ns : List Int) : Prop := ns.length = m ∧ ∀ n ∈ ns, 0 ≤ n ∧ n ≤ 9
theorem set_parts {ns : List Int} {i : Nat} {x : Int} (h : i < ns.length) : ns.take i ++ [x] ++ ns.drop (i + 1) = ns.set i x := by
  rw [List.set_eq_take_append_cons_drop, if_pos h, List.append_assoc]; rfl
theorem NsOk.set {m : Nat} {ns : List Int} (h : NsOk m ns) {i : Nat} {x : Int} (hx : 0 ≤ x ∧ x ≤ 9) : NsOk m (ns.set i x) := by
  refine ⟨by rw [List.length_set]; exact h.1, fun n hn => ?_⟩
  rcases List.mem_or_eq_of_mem_set hn with h1 | h1
  · exact h.2 n h1
  · subst h1; exact hx
section
variable {P : Program} {w : World} {K : PySem.W.Frag} {mg : Str → Option Value} {base : Heap}
abbrev famA (p : Addr) (s : Sh) (b : List Int) (ns : List D) (a4 a5 a6 : Sl) : Fam := fun x k => [.own [.int x, .int k] (some p), .dat (shT s), .dat (intsD b), .own ns, a4, a5, a6]
def IA (p : Addr) (s : Sh) (b : List Int) (i : Nat) (ρ : DL.Env) : Prop := ∃ x k l a4 a5 a6, ∃ ns : List Int, ρ = famA p s b l a4 a5 a6 x k ∧ l = ns.map .int ∧ NsOk b.length ns
abbrev spAfter (K : PySem.W.Frag) (mg : Str → Option Value) : Sp := spDice K mg (α := Sh × List Int) (fun a => [shT a.1, intsD a.2]) (fun a => 0 < a.2.length ∧ a.2.length ≤ 1000 ∧ a.2.length = a.1.1.length ∧ ∀ n ∈ a.2, 0 ≤ n ∧ n ≤ 9) (fun a d => resCounts a.1.1 9 d)
theorem dl_slice {X : Cx} {H0 : Bs} {ρ : DL.Env} {a a' i1 i2 e : Expr} {ns : List Int} {i : Nat} {x : Int} {p1 p2 p3 p4 p5 p6 p7 : Pos} (hi : i < ns.length) (hz : ns.length ≤ 1000) (ha : DR X H0 ρ a (ns.map .int)) (ha' : DR X H0 ρ a' (ns.map .int)) (h1 : DE X H0 ρ i1 (.int (i : Nat))) (h2 : DE X H0 ρ i2 (.int ((i + 1 : Nat) : Int))) (he : DE X H0 ρ e (.int x)) (hs : starEach (e :: []) X.env = (false, eval e X.env) :: starEach [] X.env := by rfl) :
    DL X H0 ρ (.BinOp (.BinOp (.Subscript a (.Slice none (some i1) none p1) p2) .Add (.List [e] p3) p4) .Add (.Subscript a' (.Slice (some i2) none none p5) p6) p7) ((ns.set i x).map .int) := by
  have hl := List.length_take_le i ns
  refine dl_to (dl_cat (dm_new (dl_cat (dm_new (dl_slR ha do_none (do_some h1))) (dm_new (dl_lst (da_cons he da_nil hs))) ?_)) (dm_new (dl_slR ha' (do_some h2) do_none)) ?_) ?_
  · rw [cutT, List.length_take, List.length_map, List.length_singleton]; omega
  · rw [cutT, cutN, List.length_append, List.length_take, List.length_map, List.length_singleton, List.length_drop, List.length_map]; omega
  · rw [cutT, cutN, ← set_parts hi, List.map_append, List.map_append, List.map_take, List.map_drop]
    rfl
end
end LP
/-! DL17: a new list of new pairs; a loop over such a list, each pair changed as it comes. -/
namespace DL
open PySem PySem.Spec PyProof.Rows L2 LamX
abbrev refsOf (rs : List (Addr × Int)) : List V := rs.map fun r => V.ref r.1
/-- a new list l of new pairs -/
structure Pairs (H : Hp) (l : Addr) (rs : List (Addr × Int)) (H2 : Hp) : Prop where
  ex : Ex H H2
  nl : H l = none
  at_ : H2 l = some (.lst (refsOf rs))
  nd : (rs.map (·.1)).Nodup
  new : ∀ r ∈ rs, H r.1 = none ∧ r.1 ≠ l ∧ H2 r.1 = some (.lst [.int r.2, .int 0])
  len : rs.length ≤ 100000
def tRd (K : PySem.W.Frag) (F : Fr0) (ρ : Env) : TE := fun σ H Q => ∃ G, Ext F.G0 F.H0.out G H ∧ Slots K F.H0 G H σ ρ ∧ ∀ l rs G2 H2, Ext G H G2 H2 → G2 l = none → (∀ r ∈ rs, G2 r.1 = none) → Pairs H l rs H2 → Q (.ref l) H2
section
variable {X : Cx} {F : Fr0} {ρ : Env} {N : DEnd} {Tb : List (Addr × Str)} {iter : Expr} {d : Nat} {y : Str} {pos py : Pos} {body rest : List Stmt}
theorem slots_noOwn {K : PySem.W.Frag} {B B2 : Bs} {G H : Hp} {σ : L2.St} {ρ : Env} (s : Slots K B G H σ ρ) (h : noOwn ρ = true) (hi : B2.inv H) : Slots K B2 G H σ ρ :=
  ⟨s.len, s.dat, fun i ds p0 q => (noOwn_get h q).elim, s.apart, s.pin, hi, s.raw, .no fun i t q => noThg_get h q⟩
theorem ds_rounds (I : Env → Prop) (hF : LamF F Tb) (hi : PE X iter (tRd X.K F ρ)) (h0 : I ρ) (hno : ∀ ρ', I ρ' → noOwn ρ' = true)
    (hb : ∀ (p : Addr) (c : Int) (ρ' : Env) (F' : Fr0), I ρ' → LamF F' Tb → F'.E = F.E → DS X F' (ρ'.set d (.own [.int c, .int 0] (some p))) body { nx := fun ρ'' => I (ρ''.set d .un), ct := fun ρ'' => I (ρ''.set d .un), rt := fun _ _ => False })
    (hr : ∀ ρ', I ρ' → DS X F ρ' rest N) (hp : PassesOwn (model X.prog X.w) X.A X.env X.xe) (hc : X.calm = true) (hN : X.N.Nodup) (hNd : X.N[d]? = some y := by rfl) (hx : Loc X.env.scope y := by first | exact .inl rfl | exact .inr rfl) (hfn : X.fn y = true ∨ X.env.scope.names.lookup y = some .local := by first | exact .inl rfl | exact .inr rfl | assumption)
    (hf : ∀ x, foldedSetIterable iter X.env x = pure x := by intro _; rfl) : DS X F ρ (.For (.Name y py) iter body [] pos :: rest) N :=
  ds_cut (N := N) (Mid := I) ((ps_for hp hc (pi_list hi) (pg_name hN hNd hx hfn) PSs.any hf).imp fun D σ H ⟨G, ex, sl, a⟩ => ⟨G, ex, sl, fun l rs G2 H2 y2 gl gr P => by
    refine ⟨l, rfl, ⟨_, .inl (.inl P.at_)⟩, ?_⟩
    have ex2 := ex.trans y2
    have ol : F.H0.out l = none := ex.h.back P.nl
    have or_ : ∀ r ∈ rs, F.H0.out r.1 = none := fun r hr => ex.h.back (P.new r hr).1
    refine for_it (g := gName d) (tb := fun D σ H => ∃ t, PSs X body t ∧ t D σ H) (D := D) (σ := σ) (H := H2) (walk_list (xs := refsOf rs)) (fun i σ' H' => ∃ ρ' G', I ρ' ∧ Ext F.G0 F.H0.out G' H' ∧ Ex G2 G' ∧ Slots X.K F.H0 G' H' σ' ρ' ∧ H' l = some (.lst (refsOf rs)) ∧ G' l = none ∧ ∀ r ∈ rs.drop i, H' r.1 = some (.lst [.int r.2, .int 0]) ∧ G' r.1 = none)
      ⟨ρ, G2, h0, ex2, Ex.refl G2, sl.up y2, P.at_, gl, fun r hr => ⟨(P.new r (List.mem_of_mem_drop hr)).2.2, gr r (List.mem_of_mem_drop hr)⟩⟩ (fun i σ' H' _ ⟨ρ', G', _, _, _, _, hl, _⟩ => .inl (.inl hl)) (fun i v σ' H' H'' hlt ⟨ρ', G', hI, x', g', sl', hl, gl', hrs⟩ hyv => ?_) (fun σ' H' ⟨ρ', G', hI, x', g', sl', _⟩ => a.1 ρ' σ' G' H' hI x' (y2.g.trans g') sl')
    obtain ⟨rfl, hv⟩ := hyv
    rw [List.getElem?_map] at hv
    cases hri : rs[i]? with
    | none => rw [hri] at hv; cases hv
    | some r =>
      rw [hri] at hv
      cases hv
      have hdrop : rs.drop i = r :: rs.drop (i + 1) := by
        have hil := (List.getElem?_eq_some_iff.mp hri).1
        rw [List.drop_eq_getElem_cons hil, (List.getElem?_eq_some_iff.mp hri).2]
      have hrm : r ∈ rs := List.mem_of_getElem? hri
      have hr0 := hrs r (by rw [hdrop]; exact List.mem_cons_self)
      have nrest : ∀ q ∈ rs.drop (i + 1), q.1 ≠ r.1 := fun q hq e => by
        have p2 := P.nd.sublist ((List.drop_sublist i rs).map (·.1))
        rw [hdrop, List.map_cons, List.nodup_cons] at p2
        exact p2.1 (e ▸ List.mem_map.mpr ⟨q, hq, rfl⟩)
      have n0 := hno ρ' hI
      let B : Bs := ⟨fun b => if b = l ∨ b ∈ (rs.drop (i + 1)).map (·.1) then H'' b else F.H0.out b, F.H0.inv, F.H0.keep⟩
      have bl : B.out l = H'' l := if_pos (.inl rfl)
      have br : ∀ q ∈ rs.drop (i + 1), B.out q.1 = H'' q.1 := fun q hq => if_pos (.inr (List.mem_map.mpr ⟨q, hq, rfl⟩))
      have bn : ∀ b, ¬ (b = l ∨ b ∈ (rs.drop (i + 1)).map (·.1)) → B.out b = F.H0.out b := fun b h => if_neg h
      have inH : ∀ b, (b = l ∨ b ∈ (rs.drop (i + 1)).map (·.1)) → (∃ vs, H'' b = some (.lst vs)) ∧ G' b = none := fun b h => by
        rcases h with rfl | h
        · exact ⟨⟨_, hl⟩, gl'⟩
        · obtain ⟨q, hq, rfl⟩ := List.mem_map.mp h
          have := hrs q (by rw [hdrop]; exact List.mem_cons_of_mem _ hq)
          exact ⟨⟨_, this.1⟩, this.2⟩
      have hF' : LamF ⟨B, F.G0, F.E⟩ Tb := ⟨hF.inv, fun b ps h => by
        by_cases q : b = l ∨ b ∈ (rs.drop (i + 1)).map (·.1)
        · obtain ⟨⟨vs, e⟩, _⟩ := inH b q
          have h' : H'' b = some (.tbl ps) := (if_pos q).symm.trans h
          rw [e] at h'; cases h'
        · exact hF.out b ps ((bn b q).symm.trans h), hF.g0⟩
      have xB : Ext F.G0 B.out G' H'' := ⟨x'.g, fun b o h => by
        by_cases q : b = l ∨ b ∈ (rs.drop (i + 1)).map (·.1)
        · exact (if_pos q).symm.trans h
        · exact x'.h b o ((bn b q).symm.trans h), x'.gh, fun b o h n => by
        by_cases q : b = l ∨ b ∈ (rs.drop (i + 1)).map (·.1)
        · rw [(inH b q).2] at h; cases h
        · rw [bn b q]; exact x'.nw b o h n, x'.nt⟩
      have s1 : Slots X.K B G' H'' σ' ρ' := slots_noOwn sl' n0 sl'.inv
      have bp : B.out r.1 = none := by
        rw [bn r.1 fun q => ?_]
        · exact or_ r hrm
        · rcases q with q | q
          · exact (P.new r hrm).2.1 q
          · obtain ⟨z, hz, e⟩ := List.mem_map.mp q
            exact nrest z hz e
      refine ⟨_, hb r.1 r.2 ρ' ⟨B, F.G0, F.E⟩ hI hF' rfl, G', xB, s1.setO (p9 := some r.1) bp hr0.2 hr0.1 (.cons (.int _) (.cons (.int _) .nil)) ⟨fun j es p0 q => (noOwn_get n0 q).elim, fun j t q => (noThg_get n0 q).elim⟩ (fun q h => by cases h; rfl), ?_⟩
      have back : ∀ ρ3 σ3 G3 H3, I (ρ3.set d .un) → Ext F.G0 B.out G3 H3 → Ex G' G3 → Slots X.K B G3 H3 σ3 ρ3 → ∃ ρ' G', I ρ' ∧ Ext F.G0 F.H0.out G' H3 ∧ Ex G2 G' ∧ Slots X.K F.H0 G' H3 σ3 ρ' ∧ H3 l = some (.lst (refsOf rs)) ∧ G' l = none ∧ ∀ r ∈ rs.drop (i + 1), H3 r.1 = some (.lst [.int r.2, .int 0]) ∧ G' r.1 = none := fun ρ3 σ3 G3 H3 hI3 x3 g3 sl3 => by
        have su := sl3.setU d (σ3.getD d none)
        rw [show σ3.set d (σ3.getD d none) = σ3 from by
          apply List.ext_getElem?
          intro j
          by_cases q : d = j
          · subst q
            by_cases hl : d < σ3.length
            · rw [List.getElem?_set_self hl]; simp [hl]
            · rw [List.getElem?_eq_none (by simpa using hl), List.getElem?_eq_none (by simpa using hl)]
          · rw [List.getElem?_set_ne q]] at su
        have gnone : ∀ b, (b = l ∨ b ∈ (rs.drop (i + 1)).map (·.1)) → G3 b = none := fun b q => by
          cases z : G3 b with
          | none => rfl
          | some o =>
            have := x3.nw b o z (x'.g.back (inH b q).2)
            rw [show B.out b = H'' b from if_pos q] at this
            obtain ⟨⟨vs, e⟩, _⟩ := inH b q
            rw [e] at this; cases this
        refine ⟨_, G3, hI3, ⟨x3.g, fun b o h => ?_, x3.gh, fun b o h n => ?_, x3.nt⟩, g'.trans g3, slots_noOwn su (hno _ hI3) su.inv, x3.h l _ (bl.trans hl), gnone l (.inl rfl), fun q hq => ⟨x3.h _ _ ((br q hq).trans (hrs q (by rw [hdrop]; exact List.mem_cons_of_mem _ hq)).1), gnone q.1 (.inr (List.mem_map.mpr ⟨q, hq, rfl⟩))⟩⟩
        · refine x3.h b o ?_
          by_cases q : b = l ∨ b ∈ (rs.drop (i + 1)).map (·.1)
          · exfalso
            rcases q with rfl | q
            · rw [ol] at h; cases h
            · obtain ⟨z, hz, rfl⟩ := List.mem_map.mp q
              rw [or_ z (List.mem_of_mem_drop hz)] at h; cases h
          · rw [bn b q]; exact h
        · by_cases q : b = l ∨ b ∈ (rs.drop (i + 1)).map (·.1)
          · rw [gnone b q] at h; cases h
          · have := x3.nw b o h n
            rwa [bn b q] at this
      exact ⟨fun ρ3 σ3 G3 H3 q3 x3 e3 s3 => back ρ3 σ3 G3 H3 q3 x3 e3 s3, fun _ _ _ _ h => h.elim, fun ρ3 σ3 G3 H3 q3 x3 e3 s3 => back ρ3 σ3 G3 H3 q3 x3 e3 s3, fun _ _ _ _ _ _ h => h.elim, fun _ _ _ _ h => h.elim⟩⟩) hr
end
end DL
/-! DL18: a comprehension that makes a new list of new pairs. -/
namespace DL
open PySem PySem.Spec PyProof.Rows L2 LamX
def tPairs (K : PySem.W.Frag) (H0 : Bs) (ρ : Env) (cs : List Int) : TE := fun σ H Q => ∃ G, Ex G H ∧ Slots K H0 G H σ ρ ∧ ∀ l rs G2 H2, Ext G H G2 H2 → G2 l = none → (∀ r ∈ rs, G2 r.1 = none) → rs.map (·.2) = cs → Pairs H l rs H2 → Q (.ref l) H2
def LcTurnL (X : Cx) (H0 : Bs) (ρ : Env) (tg : Expr) (elt : Expr) (scope : Scope) (vs : List Nat) (d : D) (r : List D) : Prop :=
  ∃ ρ' js, (∀ j ∈ js, j ∈ vs) ∧ ∀ (s : Shared) (H : Hp) (C : Addr) (cl : List (Str × Addr)) (fp : List Addr), DG (X.blk s H scope (compEnvC scope cl C X.env) fp) H0 (wipeE ρ vs) tg d ρ' js ∧
    DL (X.blk s H scope (compEnvC scope cl C X.env) fp) H0 ρ' elt r
section
variable {X : Cx} {H0 : Bs} {ρ : Env} {α : Type} {xs : List α} {enc : α → D} {tg elt iter : Expr} {scope : Scope} {own : List (Str × Nat)} {pos : Pos}
theorem lc_pairs (c : α → Int) (hz : xs.length ≤ 100000) {vs : List Nat} (hb : ∀ x ∈ xs, LcTurnL X H0 ρ tg elt scope vs (enc x) [.int (c x), .int 0]) :
    ∀ σ H Q, tPairs X.K H0 ρ (xs.map c) σ H Q → tLc (tI X.K H0 ρ (xs.map enc)) (lcG X scope tg) (lcT X scope []) (lcE X scope elt) vs σ H Q := fun σ H Q ⟨G, e0, sl, q⟩ => by
  refine ⟨G, e0, sl, fun J G1 H1 y1 ⟨Y, w, hy⟩ Dl hD => ?_⟩
  have g1D : G1 Dl = none := y1.gh.back hD
  refine lc_it (g := lcG X scope tg) (tt := lcT X scope []) (te := lcE X scope elt) (vs := vs) (σ := σ) (Qd := fun H' => Q (.ref Dl) H') w (fun i H' => ∃ G' rs, Ext G1 H1 G' H' ∧ G' Dl = none ∧ H' Dl = some (.lst (refsOf rs)) ∧ rs.map (·.2) = (xs.take i).map c ∧ (rs.map (·.1)).Nodup ∧ ∀ r ∈ rs, H r.1 = none ∧ r.1 ≠ Dl ∧ H' r.1 = some (.lst [.int r.2, .int 0]) ∧ G' r.1 = none)
    ⟨G1, [], Ext.heap y1.gh (Ex.new hD), g1D, upd_same, by simp, List.nodup_nil, fun r h => by cases h⟩ (fun i H' _ ⟨G', rs, x, _⟩ => x.g.trans x.gh) (fun i v H' H'' hi ⟨G', rs, x, gn, ha, hcs, nd, hrs⟩ hyv => ?_) (fun H' ⟨G', rs, x, gn, ha, hcs, nd, hrs⟩ => ?_)
  · rw [List.length_map] at hi
    obtain ⟨G2, d, x2, hd, rd⟩ := hy i H' v H'' G' hyv x.g x.gh
    have hx : xs[i]? = some xs[i] := List.getElem?_eq_getElem hi
    rw [List.getElem?_map, hx] at hd
    obtain rfl := Option.some.inj hd
    obtain ⟨ρ', js, hjs, hb'⟩ := hb xs[i] (List.getElem_mem hi)
    have x12 : Ext G1 H1 G2 H'' := x.trans x2
    refine ⟨tG X.K H0 (wipeE ρ vs) (enc xs[i]) ρ' js, fun s H C cl fp => (hb' s H C cl fp).1, G2, x2.gh, slots_wipe ((sl.up y1).up x12) vs, rd, fun σ' sl' hw => ⟨(hw vs hjs).trans (wipe_wipe vs σ), ?_⟩⟩
    refine ⟨tT X.K H0 ρ' true, fun s H C cl fp => dts_nil, G2, x2.gh, sl', fun G3 H3 x3 => ?_⟩
    have x13 := x12.trans x3
    have x23 := x2.trans x3
    have a3 : H3 Dl = some (.lst (refsOf rs)) := x23.h _ _ ha
    have n3 : G3 Dl = none := x23.keepN gn ha
    show (if true = true then _ else _)
    rw [if_pos rfl]
    refine ⟨tL X.K H0 ρ' [.int (c xs[i]), .int 0], fun s H C cl fp => (hb' s H C cl fp).2, G3, x3.gh, sl'.up x3, fun l2 acc G4 H4 x4 hn g4 h4 r4 => ?_⟩
    obtain ⟨v1, a1, e1, r1, r1'⟩ := r4.inv_cons
    obtain ⟨v2, a2, e2, r2, r2'⟩ := r1'.inv_cons
    obtain rfl := dp_int r1
    obtain rfl := dp_int r2
    obtain rfl := r2'.inv_nil
    subst e2
    subst e1
    have x14 := x13.trans x4
    have x24 := x23.trans x4
    have a4 : H4 Dl = some (.lst (refsOf rs)) := x4.h _ _ a3
    have n4 : G4 Dl = none := x4.keepN n3 a3
    have ne : l2 ≠ Dl := fun e => by rw [e, a3] at hn; cases hn
    have hl0 : H l2 = none := (y1.h.trans x13.h).back hn
    refine ⟨refsOf rs, a4, ?_, G4, rs ++ [(l2, c xs[i])], ⟨x14.g, x14.h.mut hD, x14.gh.mut n4, x14.nw, x14.nt⟩, n4, ?_, ?_, ?_, ?_⟩
    · have := congrArg List.length hcs
      rw [List.length_map, List.length_map, List.length_take] at this
      rw [List.length_map]
      have h2 : rs.length ≤ xs.length := by omega
      exact Nat.lt_of_le_of_lt (Nat.le_trans h2 hz) (by decide)
    · rw [upd_same, refsOf, refsOf, List.map_append]; rfl
    · rw [List.map_append, hcs, List.take_add_one, hx, List.map_append]; rfl
    · rw [List.map_append, List.nodup_append]
      refine ⟨nd, by simp, fun a ha b hb e => ?_⟩
      obtain ⟨r, hr, rfl⟩ := List.mem_map.mp ha
      rw [List.map_cons, List.map_nil, List.mem_singleton] at hb
      have := x23.h _ _ (hrs r hr).2.2.1
      rw [e, hb, hn] at this; cases this
    · intro r hr
      rcases List.mem_append.mp hr with hr | hr
      · obtain ⟨p1, p2, p3, p4⟩ := hrs r hr
        exact ⟨p1, p2, (upd_ne p2).trans (x24.h _ _ p3), x24.keepN p4 p3⟩
      · rw [List.mem_singleton] at hr
        subst hr
        exact ⟨hl0, ne, (upd_ne ne).trans h4, g4⟩
  · rw [List.length_map, List.take_length] at hcs
    have hyx := y1.trans x
    exact q Dl rs G' H' hyx gn (fun r h => (hrs r h).2.2.2) hcs ⟨hyx.h, y1.h.back hD, ha, nd, fun r h => ⟨(hrs r h).1, (hrs r h).2.1, (hrs r h).2.2.1⟩, by
      have := congrArg List.length hcs
      rw [List.length_map, List.length_map] at this
      omega⟩
theorem pe_pairs (c : α → Int) (hc : X.calm = true) (hN : X.N.Nodup) (hi : DI X H0 ρ tg iter (xs.map enc)) (ok : BlkOk X.N X.env.scope scope own) (hz : xs.length ≤ 100000) (hb : ∀ x ∈ xs, LcTurnL X H0 ρ tg elt scope (own.map (·.2)) (enc x) [.int (c x), .int 0])
    (hs : ∀ x, foldedSetIterable iter X.env x = pure x := by intro _; rfl) : PE X (.ListComp elt [⟨tg, iter, [], 0⟩] scope pos) (tPairs X.K H0 ρ (xs.map c)) :=
  (pe_lc (own := own) (wi := tI X.K H0 ρ (xs.map enc)) (g := lcG X scope tg) (tt := lcT X scope []) (te := lcE X scope elt) hc hN hi ok
    (fun s H C cl fp => ⟨fun pins s' σ H' v u Q I r ⟨t, h, q⟩ => (h s H C cl fp).run pins s' σ H' v u Q I r q⟩)
    (fun s H C cl fp => ⟨fun pins s' σ H' Q I ⟨t, h, q⟩ => (h s H C cl fp).run pins s' σ H' Q I q⟩)
    (fun s H C cl fp => ⟨fun pins s' σ H' Q I ⟨t, h, q⟩ => (h s H C cl fp).run pins s' σ H' Q I q⟩) hs).imp (lc_pairs c hz hb)
end
end DL
/-! W10: cells, rounds. -/
namespace LP
open PySem PySem.Spec PyProof.Rows L2 DL L2H LamX LQ
def cellV (ns : List Int) (k : Nat) : Int := if ns = [] then (k : Int) * 7919 else ns.getD (k % ns.length) 0 + ((k / ns.length : Nat) : Int) * 104729
section
variable {P : Program} {w : World} {K : PySem.W.Frag} {mg : Str → Option Value} {base : Heap}
abbrev scriptD (ns : List Int) : D := .list (ns.map .int)
abbrev spCellD (K : PySem.W.Frag) (mg : Str → Option Value) : Sp := spD K mg (α := List Int × Nat) (fun a => [scriptD a.1, .int a.2]) (fun a => a.1.length ≤ 1000) (fun a => .ok (.int (cellV a.1 a.2)))
theorem k_cell (T : Tx K mg) : DefOk P w K mg base 1 "_law_cell" p__law_cell (spCellD K mg) := by
  refine T.d__law_cell.ok sc__law_cell (fun _ => rfl) fun ⟨ns, k⟩ hz f cdv A outer s H G E hr tk hp => ?_
  have bt := T.bt
  have hz : ns.length ≤ 1000 := hz
  refine ds_ifRet (dt_to (dt_cmpL (op_eqP hr.units) (od_eqL (by exact pl_ty ns) rfl (.inr (Nat.le_of_ble_eq_true rfl))) (de_r (v 0)) (dl_e (dl_lst da_nil))) (eqv_nil _)) (fun h => ds_ret (de_bin op_mul (od_mul (.inr (by decide))) (v 1) de_int) ?_) fun h => ?_
  · cases ns with
    | nil => rfl
    | cons x r => cases h
  · cases ns with
    | nil => cases h
    | cons x r =>
      have hl : (0 : Int) < ((x :: r).map PyData.int).length := by rw [List.length_map, List.length_cons]; omega
      have hm : ((k : Int) % (((x :: r).map PyData.int).length : Nat)) = ((k % (x :: r).length : Nat) : Int) := by rw [List.length_map]; exact (Int.natCast_emod k _).symm
      have hd : ((k : Int) / (((x :: r).map PyData.int).length : Nat)) = ((k / (x :: r).length : Nat) : Int) := by rw [List.length_map]; exact (Int.natCast_ediv k _).symm
      have hlt : k % (x :: r).length < (x :: r).length := Nat.mod_lt _ (Nat.succ_pos _)
      refine ds_ret (d := .int (cellV (x :: r) k)) (de_to (de_bin op_add od_add (de_ixR (d := .int ((x :: r).getD (k % (x :: r).length) 0)) ((at1 hlt).trans (by rw [List.getD_eq_getElem?_getD, List.getElem?_eq_getElem hlt]; rfl)) (de_r (v 0)) (de_to (de_bin op_mod (od_mod hl) (v 1) (lenR bt (de_r (v 0)))) (congrArg PyData.int hm))) (de_bin op_mul (od_mul (.inr (by decide))) (de_to (de_bin op_fdiv (od_fdiv ⟨hl, by rw [List.length_map]; have : (x :: r).length ≤ 1000 := hz; omega⟩) (v 1) (lenR bt (de_r (v 0)))) (congrArg PyData.int hd)) de_int)) ?_) (by rfl)
      unfold cellV
      rw [if_neg (by intro h; cases h)]
def spRounds (K : PySem.W.Frag) : Sp := fun vs H Q _ => ∃ (ns : List Int) (m : Nat) (G : Hp), Ex G H ∧ DpAll K G vs [scriptD ns, .int m] ∧ ns.length ≤ 1000 ∧ m ≤ 100 ∧ ∀ l rs G2 H2, Ext G H G2 H2 → G2 l = none → (∀ r ∈ rs, G2 r.1 = none) → Pairs H l rs H2 → Q (.ref l) H2
theorem k_rounds (T : Tx K mg) : DefOk P w K mg base 2 "_law_rounds" p__law_rounds (spRounds K) := by
  have kC := k_cell (P := P) (w := w) (base := base) T
  obtain ⟨f, fd, hm, F, hb⟩ := T.d__law_rounds
  refine ⟨f, fd, hm, F.kp, hb, F.okN sc__law_rounds (fun vs H Q E ⟨ns, m, G, _, r, _⟩ => by rw [r.length]; rfl) fun cdv A outer s H vs Q E hr ⟨ns, m, G, eG, r, hz, hm100, q⟩ => ?_⟩
  have bt := T.bt
  have nd := sc__law_rounds.nd
  have hz : ns.length ≤ 1000 := hz
  have hm100 : m ≤ 100 := hm100
  generalize hL : (if (if ((ns.map PyData.int).length : Int) < (m : Int) then ((ns.map PyData.int).length : Int) else (m : Int)) > (1 : Int) then (if ((ns.map PyData.int).length : Int) < (m : Int) then ((ns.map PyData.int).length : Int) else (m : Int)) else 1) = M0
  obtain ⟨M, hM, hM3⟩ : ∃ M : Nat, M0 = (M : Int) ∧ M ≤ 100 := by
    refine ⟨M0.toNat, ?_, ?_⟩
    · rw [← hL]; split <;> (try split) <;> omega
    · rw [← hL]; split <;> (try split) <;> omega
  refine ⟨_, pss_cons (ps_ret (pe_pairs (H0 := .of H) (ρ := startE n__law_rounds [scriptD ns, .int m]) (own := [("_law_k", 2)]) (enc := fun i : Nat => .int i) (xs := List.range M) (fun i => cellV ns i) rfl nd (di_to (range1 (n := M) bt (de_to (max2 bt rfl de_int (min2 bt rfl (v 1) (lenR bt (de_r (v 0))))) (congrArg PyData.int (hL.trans hM))) (by omega)) rfl) (blkOk_by (N := n__law_rounds) (sc := defScope s__law_rounds) (by decide +kernel)) (by rw [List.length_range]; omega)
    (fun i hi => ⟨_, [2], by decide, fun s H C cl fp => ⟨dg_name (i := 2) nd, dl_lst (da_cons (de_call kC (ns, i) hr (da_cons (v 0) (da_cons (v 2) da_nil)) hz rfl rfl) (da_cons de_int da_nil))⟩⟩))) pss_never, ?_⟩
  exact ⟨G, eG, slots_start n__law_rounds eG r, fun l rs G2 H2 x g n _ P => q l rs G2 H2 x g n P⟩
theorem pe_rounds {X : Cx} {F : Fr0} {ρ : DL.Env} {e1 e2 : Expr} {p pos : Pos} {ns : List Int} {m : Nat} (D : DefX X 2 "_law_rounds" p__law_rounds (spRounds X.K)) (hr : Room 2 X.A) (ha : DA X F.H0 ρ [e1, e2] [scriptD ns, .int m]) (hz : ns.length ≤ 1000) (hm9 : m ≤ 100) (hg : Gl X "_law_rounds")
    (he : starEach [e1, e2] X.env = (false, eval e1 X.env) :: starEach [e2] X.env := by rfl) (hpl : (backTo pos (starEach [e2] X.env)).any (·.1) = false := by rfl) : PE X (.Call (.Name "_law_rounds" p) [e1, e2] [] pos) (tRd X.K F ρ) := by
  obtain ⟨f, fd, hm, hk, hb, Fk⟩ := D
  exact (pe_call Fk hr hg hm hk hb .nil passLN ha (by decide) he hpl).imp fun σ H Q ⟨G, y, sl, q⟩ => ⟨G, y.gh, sl, fun vs G1 H1 z r => ⟨ns, m, G1, z.gh, by rw [List.append_nil]; exact r, hz, hm9, fun l rs G2 H2 x g n P => q l rs G2 H2 (z.trans x) g n ⟨z.h.trans P.ex, z.h.back P.nl, P.at_, P.nd, fun r h => ⟨z.h.back (P.new r h).1, (P.new r h).2.1, (P.new r h).2.2⟩, P.len⟩⟩⟩
end
end LP
/-! P3: plain: what parts two shores. -/
namespace LP
open PySem PySem.Spec PyProof.Rows L2 DL
theorem find_least {f : Nat → Bool} {n : Nat} {k : Nat} (h : (List.range n).find? f = some k) : f k = true ∧ k < n ∧ ∀ j, j < k → f j = false := by
  rw [List.find?_range_eq_some] at h
  exact ⟨h.1, List.mem_range.mp h.2.1, fun j hj => by simpa using h.2.2 j hj⟩
theorem find_no {f : Nat → Bool} {n : Nat} (h : (List.range n).find? f = none) : ∀ j, j < n → f j = false := fun j hj => by
  rw [List.find?_range_eq_none] at h
  simpa using h j hj
open Classical in
theorem one_mono {s : Sh} {a b : Str} {h h' : Int} (hh : h ≤ h') (q : areOneB s h a b = true) : areOneB s h' a b = true := by
  unfold areOneB at q ⊢
  rw [decide_eq_true_eq] at q ⊢
  exact ⟨q.1, q.2.1, q.2.2.mono hh⟩
open Classical in
theorem one_symm (s : Sh) (h : Int) (a b : Str) : areOneB s h a b = areOneB s h b a := by
  unfold areOneB
  exact decide_eq_decide.mpr ⟨fun q => ⟨q.2.1, q.1, q.2.2.symm⟩, fun q => ⟨q.2.1, q.1, q.2.2.symm⟩⟩
theorem least_symm (s : Sh) (a b : Str) : leastO s a b = leastO s b a := by
  unfold leastO
  congr 1
  funext k
  exact one_symm s k a b
theorem one_iff {s : Sh} {a b : Str} {k : Nat} (hk : k < 10) : areOneB s (k : Int) a b = true ↔ ∃ m, leastO s a b = some m ∧ m ≤ k := by
  constructor
  · intro q
    cases hl : leastO s a b with
    | none =>
      have := find_no hl k hk
      rw [q] at this; cases this
    | some m =>
      refine ⟨m, rfl, ?_⟩
      obtain ⟨_, _, h3⟩ := find_least hl
      rcases Nat.lt_or_ge k m with h | h
      · have := h3 k h
        rw [q] at this; cases this
      · exact h
  · rintro ⟨m, hm, hmk⟩
    exact one_mono (by omega) (find_least hm).1
theorem mem_pairs {a b : Str} : ∀ {ps : List Str} {z : Str × Str}, z ∈ pairsOf ps → z.1 ∈ ps ∧ z.2 ∈ ps := fun {ps z} h => by
  unfold pairsOf at h
  obtain ⟨x, hx, hz⟩ := List.mem_flatMap.mp h
  obtain ⟨c, hc, rfl⟩ := List.mem_map.mp hz
  have := List.mem_zipIdx' hx
  exact ⟨this.2 ▸ List.getElem_mem _, List.mem_of_mem_drop hc⟩
theorem pairs_of {ps : List Str} {a b : Str} (ha : a ∈ ps) (hb : b ∈ ps) (hne : a ≠ b) : (a, b) ∈ pairsOf ps ∨ (b, a) ∈ pairsOf ps := by
  obtain ⟨i, hi, rfl⟩ := List.getElem_of_mem ha
  obtain ⟨j, hj, rfl⟩ := List.getElem_of_mem hb
  have key : ∀ {i j : Nat} (hi : i < ps.length) (hj : j < ps.length), i < j → (ps[i], ps[j]) ∈ pairsOf ps := fun {i j} hi hj h => by
    unfold pairsOf
    refine List.mem_flatMap.mpr ⟨(ps[i], i), ?_, List.mem_map.mpr ⟨ps[j], ?_, rfl⟩⟩
    · rw [List.mem_zipIdx_iff_getElem?]; exact List.getElem?_eq_getElem hi
    · rw [List.mem_drop_iff_getElem]
      refine ⟨j - (i + 1), by omega, ?_⟩
      congr 1; omega
  rcases Nat.lt_trichotomy i j with h | h | h
  · exact .inl (key hi hj h)
  · subst h; exact absurd rfl hne
  · exact .inr (key hj hi h)
theorem first_comm {s t : Sh} (h : s.1 = t.1) : firstPart t s = firstPart s t := by
  unfold firstPart
  rw [h]
  congr 1
  funext z
  congr 1
  exact decide_eq_decide.mpr eq_comm
theorem first_self (s : Sh) : firstPart s s = none := by
  unfold firstPart
  rw [List.find?_eq_none]
  intro z _
  simp
theorem first_some {s t : Sh} {a b : Str} (h : firstPart s t = some (a, b)) : a ∈ s.1 ∧ b ∈ s.1 ∧ leastO s a b ≠ leastO t a b := by
  have h1 := List.find?_some h
  have h2 := mem_pairs (a := a) (b := b) (List.mem_of_find?_eq_some h)
  exact ⟨h2.1, h2.2, by simpa using h1⟩
theorem min_parts {s t : Sh} {a b : Str} (h : leastO s a b ≠ leastO t a b) : ∃ k : Nat, minO (leastO s a b) (leastO t a b) = (k : Int) ∧ k < 10 ∧ areOneB s (k : Int) a b ≠ areOneB t (k : Int) a b := by
  have hlt : ∀ {s : Sh} {m : Nat}, leastO s a b = some m → m < 10 := fun h => (find_least h).2.1
  have bad : ∀ {s t : Sh} {k : Nat}, k < 10 → leastO s a b = some k → (∀ m, leastO t a b = some m → k < m) → areOneB s (k : Int) a b ≠ areOneB t (k : Int) a b := fun {s t k} hk h1 h2 e => by
    have q := (one_iff hk).mpr ⟨k, h1, Nat.le_refl k⟩
    rw [e] at q
    obtain ⟨m, h3, h4⟩ := (one_iff hk).mp q
    have := h2 m h3
    omega
  cases h1 : leastO s a b with
  | none => cases h2 : leastO t a b with
    | none => rw [h1, h2] at h; exact absurd rfl h
    | some y => exact ⟨y, rfl, hlt h2, Ne.symm (bad (hlt h2) h2 fun m hm => by rw [h1] at hm; cases hm)⟩
  | some x => cases h2 : leastO t a b with
    | none => exact ⟨x, rfl, hlt h1, bad (hlt h1) h1 fun m hm => by rw [h2] at hm; cases hm⟩
    | some y =>
      rw [h1, h2] at h
      have hne : x ≠ y := fun e => h (by rw [e])
      by_cases q : y < x
      · refine ⟨y, by simp [minO, q], hlt h2, Ne.symm (bad (hlt h2) h2 fun m hm => ?_)⟩
        rw [h1] at hm; cases hm; exact q
      · refine ⟨x, by simp [minO, q], hlt h1, bad (hlt h1) h1 fun m hm => ?_⟩
        rw [h2] at hm; cases hm; omega
theorem unit_sum {lot : List Str} {a : Str} : ∀ {ps : List Str}, ps.Nodup → inLot ps (unitV ps a) lot = if a ∈ ps ∧ a ∈ lot then 1 else 0
  | [], _ => by simp [inLot, unitV]
  | p :: ps, h => by
    rw [List.nodup_cons] at h
    have ih := unit_sum (lot := lot) (a := a) h.2
    unfold inLot unitV at ih ⊢
    rw [List.map_cons, List.zip_cons_cons]
    by_cases q : p ∈ lot
    · rw [List.filter_cons_of_pos (by simpa using q), List.map_cons, List.sum_cons, ih]
      by_cases e : p = a
      · subst e; simp [q, h.1]
      · have e' : ¬ a = p := fun z => e z.symm
        simp [e, e']
    · rw [List.filter_cons_of_neg (by simpa using q), ih]
      by_cases e : p = a
      · subst e; simp [q, h.1]
      · have e' : ¬ a = p := fun z => e z.symm
        simp [e']
open Classical in
theorem changed_unit {s : Sh} (g : Good s) {a b : Str} (ha : a ∈ s.1) (hb : b ∈ s.1) (h : Int) : (changed s (unitV s.1 a) (unitV s.1 b) h).isEmpty = areOneB s h a b := by
  have nd := pw_nodup g.up
  rw [Bool.eq_iff_iff, changed_nil g]
  unfold areOneB
  rw [decide_eq_true_iff]
  constructor
  · intro q
    have := q a ha
    rw [unit_sum nd, unit_sum nd] at this
    have m : a ∈ lotOf s h a := mem_lotOf.mpr ⟨ha, .refl a⟩
    rw [if_pos ⟨ha, m⟩] at this
    by_cases z : b ∈ lotOf s h a
    · exact ⟨ha, hb, (mem_lotOf.mp z).2⟩
    · rw [if_neg fun w => z w.2] at this; cases this
  · rintro ⟨_, _, c⟩ p hp
    rw [unit_sum nd, unit_sum nd]
    have : (a ∈ s.1 ∧ a ∈ lotOf s h p) ↔ (b ∈ s.1 ∧ b ∈ lotOf s h p) := by
      rw [mem_lotOf, mem_lotOf]
      exact ⟨fun z => ⟨hb, hb, z.2.2.trans c⟩, fun z => ⟨ha, ha, z.2.2.trans c.symm⟩⟩
    by_cases z : a ∈ s.1 ∧ a ∈ lotOf s h p
    · rw [if_pos z, if_pos (this.mp z)]
    · rw [if_neg z, if_neg fun w => z (this.mpr w)]
open Classical in
theorem none_same {s t : Sh} (e : s.1 = t.1) (h : firstPart s t = none) {k : Nat} (hk : k < 10) {a b : Str} (ha : a ∈ s.1) (hb : b ∈ s.1) : Conn s (k : Int) a b ↔ Conn t (k : Int) a b := by
  by_cases q : a = b
  · subst q; exact ⟨fun _ => .refl a, fun _ => .refl a⟩
  · have hl : leastO s a b = leastO t a b := by
      unfold firstPart at h
      rw [List.find?_eq_none] at h
      rcases pairs_of ha hb q with m | m
      · simpa using h _ m
      · have := h _ m
        rw [least_symm s a b, least_symm t a b]
        simpa using this
    have h1 : areOneB s (k : Int) a b = areOneB t (k : Int) a b := by
      rw [Bool.eq_iff_iff, one_iff hk, one_iff hk, hl]
    unfold areOneB at h1
    have h2 := decide_eq_decide.mp h1
    exact ⟨fun c => (h2.mp ⟨ha, hb, c⟩).2.2, fun c => (h2.mpr ⟨e ▸ ha, e ▸ hb, c⟩).2.2⟩
open Classical in
theorem none_lot {s t : Sh} (e : s.1 = t.1) (h : firstPart s t = none) {k : Nat} (hk : k < 10) {p : Str} (hp : p ∈ s.1) : lotOf s (k : Int) p = lotOf t (k : Int) p := by
  unfold lotOf
  rw [← e]
  exact List.filter_congr fun q hq => decide_eq_decide.mpr (none_same e h hk hp hq)
theorem none_follow {s t : Sh} (g : Good s) (g2 : Good t) (e : s.1 = t.1) (h : firstPart s t = none) {k : Nat} (hk : k < 10) (b a : List Int) : (changed s b a (k : Int)).isEmpty = (changed t b a (k : Int)).isEmpty := by
  rw [Bool.eq_iff_iff, changed_nil g, changed_nil g2, ← e]
  exact ⟨fun q p hp => by rw [← none_lot e h hk hp]; exact q p hp, fun q p hp => by rw [none_lot e h hk hp]; exact q p hp⟩
theorem some_follow {s t : Sh} (g : Good s) (g2 : Good t) (e : s.1 = t.1) {a b : Str} (h : firstPart s t = some (a, b)) : ∃ k : Nat, minO (leastO s a b) (leastO t a b) = (k : Int) ∧ k < 10 ∧ (changed s (unitV s.1 a) (unitV s.1 b) (k : Int)).isEmpty ≠ (changed t (unitV s.1 a) (unitV s.1 b) (k : Int)).isEmpty := by
  obtain ⟨ha, hb, hne⟩ := first_some h
  obtain ⟨k, h1, h2, h3⟩ := min_parts hne
  refine ⟨k, h1, h2, ?_⟩
  rw [changed_unit g ha hb]
  rw [e, changed_unit g2 (e ▸ ha) (e ▸ hb)]
  exact h3
end LP
/-! P4: plain: sums over lots; what a height lets each greater one lets; least heights of nights. -/
namespace LP
open PySem PySem.Spec PyProof.Rows L2 DL
theorem inLot_cons (p : Str) (ps : List Str) (n : Int) (ns : List Int) (S : List Str) : inLot (p :: ps) (n :: ns) S = (if p ∈ S then n else 0) + inLot ps ns S := by
  unfold inLot
  rw [List.zip_cons_cons]
  by_cases h : p ∈ S
  · rw [List.filter_cons_of_pos (by simpa using h), if_pos h]; rfl
  · rw [List.filter_cons_of_neg (by simpa using h), if_neg h, Int.zero_add]
theorem inLot_nil (ns : List Int) (S : List Str) : inLot [] ns S = 0 := rfl
theorem inLot_nil2 (ps : List Str) (S : List Str) : inLot ps [] S = 0 := by unfold inLot; rw [List.zip_nil_right]; rfl
theorem inLot_congr {A B : List Str} : ∀ {ps : List Str} {ns : List Int}, (∀ p ∈ ps, p ∈ A ↔ p ∈ B) → inLot ps ns A = inLot ps ns B
  | [], _, _ => rfl
  | _ :: _, [], _ => by rw [inLot_nil2, inLot_nil2]
  | p :: ps, n :: ns, h => by
    rw [inLot_cons, inLot_cons, inLot_congr fun q hq => h q (List.mem_cons_of_mem _ hq)]
    congr 1
    by_cases c : p ∈ A
    · rw [if_pos c, if_pos ((h p List.mem_cons_self).mp c)]
    · rw [if_neg c, if_neg fun z => c ((h p List.mem_cons_self).mpr z)]
theorem inLot_empty : ∀ {ps : List Str} {ns : List Int} {S : List Str}, (∀ p ∈ ps, p ∉ S) → inLot ps ns S = 0
  | [], _, _, _ => rfl
  | _ :: _, [], _, _ => by rw [inLot_nil2]
  | p :: ps, n :: ns, S, h => by
    rw [inLot_cons, if_neg (h p List.mem_cons_self), inLot_empty fun q hq => h q (List.mem_cons_of_mem _ hq)]; rfl
theorem inLot_split {A S : List Str} (hA : ∀ p ∈ A, p ∈ S) : ∀ (ps : List Str) (ns : List Int), inLot ps ns S = inLot ps ns A + inLot ps ns (S.filter fun p => decide (p ∉ A))
  | [], _ => rfl
  | _ :: _, [] => by rw [inLot_nil2, inLot_nil2, inLot_nil2]; rfl
  | p :: ps, n :: ns => by
    rw [inLot_cons, inLot_cons, inLot_cons, inLot_split hA ps ns]
    have e : p ∈ S.filter (fun p => decide (p ∉ A)) ↔ p ∈ S ∧ p ∉ A := by rw [List.mem_filter, decide_eq_true_eq]
    by_cases a : p ∈ A
    · rw [if_pos a, if_pos (hA p a), if_neg fun z => (e.mp z).2 a]; omega
    · by_cases s : p ∈ S
      · rw [if_neg a, if_pos s, if_pos (e.mpr ⟨s, a⟩)]; omega
      · rw [if_neg a, if_neg s, if_neg fun z => s (e.mp z).1]; omega
/-- closed: with a pool all its lot -/
def ShutL (s : Sh) (h : Int) (S : List Str) : Prop := ∀ p q, p ∈ S → Conn s h p q → q ∈ S
/-- if each lot keeps its number so does what is made of lots -/
theorem shut_same {s : Sh} {h : Int} (g : Good s) {b a : List Int} (hl : ∀ p ∈ s.1, inLot s.1 b (lotOf s h p) = inLot s.1 a (lotOf s h p)) : ∀ (n : Nat) (S : List Str), S.length ≤ n → (∀ p ∈ S, p ∈ s.1) → ShutL s h S → inLot s.1 b S = inLot s.1 a S
  | _, [], _, _, _ => (inLot_empty (by simp)).trans (inLot_empty (by simp)).symm
  | 0, _ :: _, h0, _, _ => absurd h0 (Nat.not_succ_le_zero _)
  | n + 1, p :: S, hn, hS, sh => by
    have hp := hS p List.mem_cons_self
    have hA : ∀ q ∈ lotOf s h p, q ∈ p :: S := fun q hq => sh p q List.mem_cons_self (mem_lotOf.mp hq).2
    have pl : p ∈ lotOf s h p := mem_lotOf.mpr ⟨hp, .refl p⟩
    rw [inLot_split hA, inLot_split hA s.1 a, hl p hp]
    congr 1
    refine shut_same g hl n _ ?_ (fun q hq => hS q (List.mem_filter.mp hq).1) fun x y hx c => ?_
    · rw [List.filter_cons_of_neg (by rw [decide_eq_true_eq]; exact fun z => z pl)]
      exact Nat.le_trans (List.length_filter_le _ _) (Nat.le_of_succ_le_succ hn)
    · rw [List.mem_filter, decide_eq_true_eq] at hx ⊢
      refine ⟨sh x y hx.1 c, fun z => hx.2 ?_⟩
      exact mem_lotOf.mpr ⟨hS x hx.1, (mem_lotOf.mp z).2.trans c.symm⟩
theorem follows_mono {s : Sh} (g : Good s) {b a : List Int} {h h' : Int} (hh : h ≤ h') (q : (changed s b a h).isEmpty = true) : (changed s b a h').isEmpty = true := by
  rw [changed_nil g] at q ⊢
  intro p hp
  refine shut_same (h := h) g q (lotOf s h' p).length _ (Nat.le_refl _) (fun x hx => (mem_lotOf.mp hx).1) fun x y hx c => ?_
  rw [mem_lotOf] at hx ⊢
  exact ⟨c.mem g hx.1, hx.2.trans (c.mono hh)⟩
/-- the least height at which counts follow -/
noncomputable def leastF (s : Sh) (b a : List Int) : Option Nat := (List.range 10).find? fun k => (changed s b a (k : Int)).isEmpty
theorem leastF_iff {s : Sh} (g : Good s) {b a : List Int} {k : Nat} (hk : k < 10) : (changed s b a (k : Int)).isEmpty = true ↔ ∃ m, leastF s b a = some m ∧ m ≤ k := by
  constructor
  · intro q
    cases hl : leastF s b a with
    | none => have := find_no hl k hk; rw [q] at this; cases this
    | some m =>
      refine ⟨m, rfl, Nat.le_of_not_lt fun h => ?_⟩
      have := (find_least hl).2.2 k h
      rw [q] at this; cases this
  · rintro ⟨m, hm, hmk⟩
    exact follows_mono g (by omega) (find_least hm).1
theorem leastF_lt {s : Sh} {b a : List Int} {m : Nat} (h : leastF s b a = some m) : m < 10 := (find_least h).2.1
end LP
/-! DL19: a def in a frame where lambdas may be made; forgetting. -/
namespace DL
open PySem PySem.Spec PyProof.Rows L2 LamX
section
variable {P : Program} {w : World} {K : PySem.W.Frag} {mg : Str → Option Value} {base : Heap} {α : Type} {enc : α → List D} {pre : α → Prop} {res : α → D → Prop} {x : Str} {st : Stmt} {N ps : List Str} {k : Nat} {Tb : List (Addr × Str)}
theorem DefAt.okT (D : DefAt K mg x st ps) (S : FnScope N ps (defScope st)) (hlen : ∀ a, (enc a).length = ps.length)
    (body : ∀ a, pre a → ∀ (f : Addr) (cdv : Value) (A : Around) (outer : List PySem.Env) (s : Shared) (H G : Hp) (E : XK), Room k (A.deeper (envOfC x (defScope st) s.heap.objs.size f cdv)) →
      TakesE (cxOf (L2N.CX P w) P w K mg base N x (defScope st) f cdv A outer s H E) ⟨.tab H Tb, G, E⟩ → PassesOwn (model P w) (cxOf (L2N.CX P w) P w K mg base N x (defScope st) f cdv A outer s H E).A (cxOf (L2N.CX P w) P w K mg base N x (defScope st) f cdv A outer s H E).env (cxOf (L2N.CX P w) P w K mg base N x (defScope st) f cdv A outer s H E).xe →
      LamF ⟨.tab H Tb, G, E⟩ Tb → DS (cxOf (L2N.CX P w) P w K mg base N x (defScope st) f cdv A outer s H E) ⟨.tab H Tb, G, E⟩ (startE N (enc a)) (defBody st) (endR (res a))) :
    ∃ f fd, mg x = some (.ref f) ∧ Fun K x x st f fd ∧ FnOk P w K mg base (L2N.CX P w) (k + 1) f fd ps (spTab K Tb enc pre res) := by
  obtain ⟨f, fd, hm, F, hb⟩ := D
  refine ⟨f, fd, hm, F, F.okN S (fun vs H Q E ⟨a, G, _, _, r, _⟩ => by rw [r.length]; exact hlen a) fun cdv A outer s H vs Q E hr ⟨a, G, e, ng, r, hp, tb, q⟩ => ?_⟩
  have tk : TakesE (cxOf (L2N.CX P w) P w K mg base N x (defScope st) f cdv A outer s H E) ⟨.tab H Tb, G, E⟩ := L2N.takes_of rfl rfl rfl rfl
  refine ⟨_, body a hp f cdv A outer s H G E hr tk (passes_of rfl) ⟨fun _ => Iff.rfl, noTbl_no, ng⟩, G, ⟨Ex.refl G, noTbl_ex, e, fun a o h n => (by change G a = none at n; rw [h] at n; cases n), fun _ _ h => h⟩, slots_startB N tb e r, fun ρ' σ' G' H' h x' _ s' => q .none .non G' H' h x' s'.inv .non, fun _ _ _ _ h => h.elim, fun _ _ _ _ h => h.elim, fun ρ' σ' d v G' H' h x' s' r' => q d v G' H' h x' s'.inv r', fun n C G' H' h => h.elim⟩
end
section
variable {X : Cx} {F : Fr0} {E : Fam} {S : D → Prop} {T Ta : Bool → Prop} {a : Expr} {pos : Pos}
theorem dxt_val (h : DX X F E a S) (hS : ∀ d, S d → ∃ p, d = .bool p ∧ T p) (he : ∀ whole, isTrue a X.env whole = (do let v ← whole; standAt a.pos; holding [v] (truthy v)) := by intro _; rfl) : DXt X F E a T :=
  (pt_val h he).imp fun σ H Q ⟨x, k, G, ex, sl, q⟩ => ⟨x, k, G, ex, sl, fun d x1 k1 v G1 H1 s1 e1 g1 sl1 r1 => by
    obtain ⟨p, rfl, hp⟩ := hS d s1
    exact ⟨p, dp_bool r1, q p x1 k1 G1 H1 hp e1 g1 sl1⟩⟩
theorem dxt_not (h : DXt X F E a Ta) (hT : ∀ p, Ta p → T (!p)) : DXt X F E (.UnaryOp .Not a pos) T :=
  (pt_not h).imp fun σ H Q ⟨x, k, G, ex, sl, q⟩ => ⟨x, k, G, ex, sl, fun p x1 k1 G1 H1 s1 e1 g1 sl1 => q (!p) x1 k1 G1 H1 (hT p s1) e1 g1 sl1⟩
theorem od_isnot_bl {p q : Bool} : OpD X (fun x y H Q => ∃ a b, x = .bl a ∧ y = .bl b ∧ Q (.bl (!decide (a = b))) H) (.bool p) (.bool q) (.bool (!decide (p = q))) := fun x y G H Q e r1 r2 k => ⟨p, q, dp_bool r1, dp_bool r2, k _ G H (Ext.refl e) (.bl _)⟩
end
end DL
/-! LSet: sets of tuples whose items are of one kind (texts, ints), of any size up to 2000: made of a list, told by sorted. -/
namespace LS
open PySem PySem.Spec PyProof.Rows L2
/-! ### the round of i -> 5 i + 1 by any power of two -/
def gN (x : Nat) : Nat → Nat
  | 0 => x
  | k + 1 => gN x k * 5 + 1
theorem gN_add (x a : Nat) : ∀ b, gN x (a + b) = gN (gN x a) b
  | 0 => rfl
  | b + 1 => congrArg (fun z => z * 5 + 1) (gN_add x a b)
theorem gN_pow : ∀ e, ∃ u v, ∀ x, gN x (2 ^ e) = x * (1 + 4 * 2 ^ e * u) + 2 ^ e * (1 + 2 * v)
  | 0 => ⟨1, 0, fun x => by show x * 5 + 1 = _; omega⟩
  | e + 1 => by
    obtain ⟨u, v, h⟩ := gN_pow e
    refine ⟨u + 2 * 2 ^ e * u * u, v + 2 ^ e * u + 2 * v * 2 ^ e * u, fun x => ?_⟩
    have e2 : 2 ^ (e + 1) = 2 ^ e + 2 ^ e := by rw [Nat.pow_succ]; omega
    rw [e2, gN_add, h, h]
    generalize 2 ^ e = p
    grind
theorem gN_meets : ∀ (e x y : Nat), ∃ k, k < 2 ^ e ∧ gN x k % 2 ^ e = y % 2 ^ e
  | 0, x, y => ⟨0, by decide, by rw [Nat.pow_zero, Nat.mod_one, Nat.mod_one]⟩
  | e + 1, x, y => by
    obtain ⟨k, hk, h⟩ := gN_meets e x y
    have e2 : 2 ^ (e + 1) = 2 * 2 ^ e := by rw [Nat.pow_succ]; omega
    obtain ⟨u, v, hp⟩ := gN_pow e
    have h3 := hp (gN x k)
    rw [← gN_add] at h3
    have hpos : 0 < 2 ^ e := Nat.pow_pos (by decide)
    rw [e2]
    generalize 2 ^ e = p at hk h h3 hpos ⊢
    generalize hz : gN x k = z at h h3
    by_cases q : z % (2 * p) = y % (2 * p)
    · exact ⟨k, by omega, by rw [hz]; exact q⟩
    · refine ⟨k + p, by omega, ?_⟩
      have e4 : z * (1 + 4 * p * u) + p * (1 + 2 * v) = (z + p) + (2 * p) * (2 * u * z + v) := by grind
      rw [h3, e4, Nat.add_mul_mod_self_left]
      rw [Nat.mul_comm 2 p] at q ⊢
      have a1 := Nat.mod_mul (x := z) (a := p) (b := 2)
      have a2 := Nat.mod_mul (x := y) (a := p) (b := 2)
      have a3 := Nat.mod_mul (x := z + p) (a := p) (b := 2)
      have d1 : (z + p) / p = z / p + 1 := Nat.add_div_right z hpos
      have m1 : (z + p) % p = z % p := Nat.add_mod_right z p
      rw [a1, a2] at q
      rw [a3, a2, d1, m1, h]
      rw [h] at q
      have : (z / p) % 2 ≠ (y / p) % 2 := fun c => q (by rw [c])
      have : (z / p + 1) % 2 = (y / p) % 2 := by omega
      rw [this]
/-- a mask: one less than a power of two, 7 to 4095 -/
def Pow (m : Nat) : Prop := ∃ n, 3 ≤ n ∧ n ≤ 12 ∧ m + 1 = 2 ^ n
theorem Pow.le {m : Nat} (h : Pow m) : m ≤ 4095 := by
  obtain ⟨n, _, h2, e⟩ := h
  have : (2 : Nat) ^ n ≤ 2 ^ 12 := Nat.pow_le_pow_right (by decide) h2
  omega
theorem Pow.odd {m : Nat} (h : Pow m) : m % 2 = 1 := by
  obtain ⟨n, h3, _, e⟩ := h
  obtain ⟨k, rfl⟩ : ∃ k, n = k + 1 := ⟨n - 1, by omega⟩
  rw [Nat.pow_succ] at e
  omega
theorem lcg_gN {m i : Nat} (hi : i ≤ m) : ∀ k, lcgI m i k = gN i k % (m + 1)
  | 0 => (Nat.mod_eq_of_lt (Nat.lt_succ_of_le hi)).symm
  | k + 1 => by
    show (lcgI m i k * 5 + 1) % (m + 1) = (gN i k * 5 + 1) % (m + 1)
    rw [lcg_gN hi k, Nat.add_mod, Nat.mul_mod, Nat.mod_mod, ← Nat.mul_mod, ← Nat.add_mod]
theorem lcg_all' {m i j : Nat} (hm : Pow m) (hi : i ≤ m) (hj : j ≤ m) : ∃ k, k ≤ m ∧ lcgI m i k = j := by
  obtain ⟨n, _, _, e⟩ := hm
  obtain ⟨k, hk, h⟩ := gN_meets n i j
  rw [← e] at hk h
  exact ⟨k, Nat.le_of_lt_succ hk, by rw [lcg_gN hi, h, Nat.mod_eq_of_lt (Nat.lt_succ_of_le hj)]⟩
theorem runs_meet {m j : Nat} (hm : Pow m) (h : Int) (hj : j ≤ m) : ∃ n, n ≤ m + 12 ∧ runI m (SetTable.bits h) n = j := by
  obtain ⟨k, hk, e⟩ := lcg_all' hm (runI_le m (SetTable.bits h) 12) hj
  exact ⟨12 + k, by omega, (runI_tail (bits_lt h) k).trans e⟩
theorem steps_meet {m j : Nat} (hm : Pow m) (h : Int) (hj : j ≤ m) : ∃ k, k < 10 * SetTable.turns m ∧ way m h k = j := by
  obtain ⟨n, hn, e⟩ := runs_meet hm h hj
  obtain ⟨k, hk, e2⟩ := run_nth m (SetTable.bits h) n
  exact ⟨k, by unfold SetTable.turns; omega, (congrArg SetTable.Probe.j e2).trans e⟩
theorem way_in {m k : Nat} {h : Int} : way m h k ≤ m := by
  have q := nth_in (m := m) k (runAt m (SetTable.bits h % (m + 1)) (SetTable.bits h)) (by
    have hi : SetTable.bits h % (m + 1) < m + 1 := Nat.mod_lt _ (Nat.succ_pos m)
    have r := runEnd_bd (Nat.le_of_lt_succ hi)
    show SetTable.bits h % (m + 1) + (SetTable.runEnd m (SetTable.bits h % (m + 1)) - SetTable.bits h % (m + 1)) ≤ m
    omega)
  exact Nat.le_trans (Nat.le_add_right _ _) q
/-! ### tables -/
structure Tab (t : SetTable) (hs : List Int) : Prop where
  pow : Pow t.mask
  ris : Ris t.place.toList
  dm : t.dummies = #[]
  sz : t.place.size = hs.length
  top : ∀ x ∈ t.place.toList, x ≤ t.mask
  led : ∀ (i : Nat) (h : Int) (j : Nat), hs[i]? = some h → t.place.toList[i]? = some j → ∃ k, way t.mask h k = j ∧ ∀ c, c < k → way t.mask h c ∈ t.place.toList
theorem Tab.gap {t : SetTable} {hs : List Int} (T : Tab t hs) (hl : hs.length ≤ t.mask) (h : Int) : ∃ K, K < 10 * SetTable.turns t.mask ∧ way t.mask h K ∉ t.place.toList ∧ ∀ c, c < K → way t.mask h c ∈ t.place.toList := by
  obtain ⟨j, hj, hn⟩ := st_missing t.place.toList (t.mask + 1) (by have := T.sz; rw [Array.length_toList]; omega)
  obtain ⟨k, hk, e⟩ := steps_meet T.pow h (Nat.le_of_lt_succ hj)
  obtain ⟨K, h1, h2, h3⟩ := st_least (p := fun c => way t.mask h c ∉ t.place.toList) k (e ▸ hn)
  exact ⟨K, Nat.lt_of_le_of_lt h1 hk, h2, fun c hc => Classical.byContradiction (h3 c hc)⟩
theorem Tab.ahead {t : SetTable} {hs : List Int} (T : Tab t hs) {h : Int} {K i j : Nat} (hK : way t.mask h K ∉ t.place.toList) (hi : hs[i]? = some h) (hj : t.place.toList[i]? = some j) : ∃ k, k < K ∧ way t.mask h k = j := by
  obtain ⟨k, e, hb⟩ := T.led i h j hi hj
  refine ⟨k, Classical.byContradiction fun c => ?_, e⟩
  rcases Nat.lt_or_ge K k with z | z
  · exact hK (hb K z)
  · have : k = K := by omega
    subst this
    exact hK (e ▸ List.mem_of_getElem? hj)
theorem Tab.put {t : SetTable} {hs : List Int} (T : Tab t hs) {h : Int} {K p : Nat} (hK : way t.mask h K ∉ t.place.toList) (hb : ∀ c, c < K → way t.mask h c ∈ t.place.toList) (hp : p = SetTable.below t.place (way t.mask h K)) :
    (t.put (way t.mask h K)).2 = p ∧ p ≤ hs.length ∧ Tab (t.put (way t.mask h K)).1 (hs.take p ++ h :: hs.drop p) ∧ (t.put (way t.mask h K)).1.fill = hs.length + 1 := by
  subst hp
  have top : way t.mask h K ≤ t.mask := way_in
  generalize hj : way t.mask h K = j at hK top ⊢
  have cut := (below_cut T.ris j).1
  have len := T.sz
  have pl : SetTable.below t.place j ≤ t.place.toList.length := cut
  have ph : SetTable.below t.place j ≤ hs.length := len ▸ cut
  have pp := put_place t j
  have sz : (t.put j).1.place.size = hs.length + 1 := by
    rw [← Array.length_toList, pp, len_ins _ pl, Array.length_toList, len]
  have up : ∀ x, x ∈ t.place.toList → x ∈ (t.put j).1.place.toList := fun x hx => by rw [pp]; exact mem_ins.2 (.inr hx)
  refine ⟨rfl, ph, ⟨T.pow, ris_insert T.ris fun e => hK (List.mem_of_getElem? (Array.getElem?_toList.trans e)), put_dm T.dm j, by rw [len_ins _ ph, sz], fun x hx => ?_, fun i h' j' h1 h2 => ?_⟩, ?_⟩
  · rw [pp] at hx
    exact (mem_ins.1 hx).elim (fun e => e ▸ top) (T.top x)
  · rw [tins_get hs ph] at h1
    rw [pp, tins_get _ pl] at h2
    show ∃ k, way t.mask h' k = j' ∧ ∀ c, c < k → way t.mask h' c ∈ (t.put j).1.place.toList
    have old : ∀ i, hs[i]? = some h' → t.place.toList[i]? = some j' → ∃ k, way t.mask h' k = j' ∧ ∀ c, c < k → way t.mask h' c ∈ (t.put j).1.place.toList := fun i h1 h2 => by
      obtain ⟨k, e, z⟩ := T.led i h' j' h1 h2
      exact ⟨k, e, fun c hc => up _ (z c hc)⟩
    split at h1
    · next c => rw [if_pos c] at h2; exact old i h1 h2
    · next c =>
      rw [if_neg c] at h2
      split at h1
      · next d =>
        rw [if_pos d] at h2
        cases h1; cases h2
        exact ⟨K, hj, fun c hc => up _ (hb c hc)⟩
      · next d => rw [if_neg d] at h2; exact old _ h1 h2
  · show (t.put j).1.place.size + (t.put j).1.dummies.size = hs.length + 1
    rw [put_dm T.dm j, sz]; rfl
/-! ### laid anew -/
theorem free_at {m j : Nat} (hm : Pow m) (owner : Array (Option Nat)) (h : Int) (hj : j ≤ m) (hf : oAt owner j = none) :
    ∃ K, SetTable.layClean.free m owner (SetTable.turns m) (SetTable.bits h % (m + 1)) (SetTable.bits h) = some (way m h K) ∧ oAt owner (way m h K) = none ∧ ∀ c, c < K → oAt owner (way m h c) ≠ none := by
  obtain ⟨n, hn, e⟩ := runs_meet hm h hj
  have hw : way m h (off m (SetTable.bits h % (m + 1)) (SetTable.bits h) n) = j :=
    (congrArg SetTable.Probe.j (nth_off m n (SetTable.bits h % (m + 1)) (SetTable.bits h))).trans (by rw [itL_run]; exact e)
  obtain ⟨K, k1, k2, k3⟩ := st_least (p := fun k => oAt owner (way m h k) = none) (off m (SetTable.bits h % (m + 1)) (SetTable.bits h) n) (by rw [hw]; exact hf)
  refine ⟨K, free_spec m owner (SetTable.turns m) n _ _ K (by unfold SetTable.turns; omega) k1 (fun k hk => ?_) (by rw [show oAt owner (nth m (runAt m (SetTable.bits h % (m + 1)) (SetTable.bits h)) K).j = none from k2]; rfl), k2, k3⟩
  cases z : oAt owner (nth m (runAt m (SetTable.bits h % (m + 1)) (SetTable.bits h)) k).j with
  | none => exact absurd z (k3 k hk)
  | some _ => rfl
theorem own_step {m : Nat} (hm : Pow m) {done : List Int} {owner : Array (Option Nat)} (W : Own m done owner) (hl : done.length ≤ m) (h : Int) :
    ∃ j, SetTable.layClean.free m owner (SetTable.turns m) (SetTable.bits h % (m + 1)) (SetTable.bits h) = some j ∧ Own m (done ++ [h]) (owner.setIfInBounds j (some done.length)) := by
  obtain ⟨ps, hps, hin⟩ := W.ps
  obtain ⟨j0, h0, hn0⟩ := st_missing ps (m + 1) (by omega)
  obtain ⟨K, e1, e2, e3⟩ := free_at hm owner h (Nat.le_of_lt_succ h0) (Classical.byContradiction fun c => hn0 (hin j0 (Nat.le_of_lt_succ h0) c))
  have top : way m h K ≤ m := way_in
  refine ⟨_, e1, ?_⟩
  generalize hj : way m h K = j at e2 top ⊢
  have me := oAt_set_self (some done.length) (show j < owner.size by rw [W.sz]; omega)
  have up : ∀ i, oAt owner i ≠ none → oAt (owner.setIfInBounds j (some done.length)) i ≠ none := fun i hi => by
    by_cases c : i = j
    · rw [c, me]; exact Option.some_ne_none _
    · rw [oAt_set_ne _ c]; exact hi
  refine ⟨(Array.size_setIfInBounds ..).trans W.sz, fun i k hi e => ?_, fun k hk => ?_, j :: ps, by rw [List.length_cons, List.length_append, hps]; rfl, fun i hi e => ?_⟩
  · by_cases c : i = j
    · rw [c, me] at e
      cases e
      exact ⟨h, K, by rw [List.getElem?_append_right (Nat.le_refl _), Nat.sub_self]; rfl, hj.trans c.symm, fun k' hk' => up _ (e3 k' hk')⟩
    · rw [oAt_set_ne _ c] at e
      obtain ⟨h', K', a1, a2, a3⟩ := W.at_ i k hi e
      exact ⟨h', K', by rw [List.getElem?_append_left (List.getElem?_eq_some_iff.mp a1).1]; exact a1, a2, fun k' hk' => up _ (a3 k' hk')⟩
  · by_cases c : k < done.length
    · obtain ⟨i, hi, e⟩ := W.all k c
      exact ⟨i, hi, by rw [oAt_set_ne _ (fun z => by rw [z, e2] at e; cases e)]; exact e⟩
    · rw [List.length_append, List.length_singleton] at hk
      obtain rfl : k = done.length := by omega
      exact ⟨j, top, me⟩
  · by_cases c : i = j
    · rw [c]; exact List.mem_cons_self
    · rw [oAt_set_ne _ c] at e
      exact List.mem_cons_of_mem _ (hin i hi e)
theorem fold_own {m : Nat} (hm : Pow m) : ∀ (rest done : List Int) (owner : Array (Option Nat)), Own m done owner → done.length + rest.length ≤ m →
    ∃ o2, rest.foldl (stepF m) (some (owner, done.length)) = some (o2, (done ++ rest).length) ∧ Own m (done ++ rest) o2
  | [], done, owner, W, _ => ⟨owner, by rw [List.append_nil]; rfl, by rw [List.append_nil]; exact W⟩
  | h :: rest, done, owner, W, hl => by
    rw [List.length_cons] at hl
    obtain ⟨j, e, W'⟩ := own_step hm W (by omega) h
    obtain ⟨o2, f, W2⟩ := fold_own hm rest (done ++ [h]) _ W' (by rw [List.length_append, List.length_singleton]; omega)
    rw [List.append_assoc, List.singleton_append] at f W2
    rw [List.length_append, List.length_singleton] at f
    exact ⟨o2, by rw [List.foldl_cons, stepF_some e]; exact f, W2⟩
theorem relaid_at (t : SetTable) {hs : Array Int} {wanted M : Nat} (hw : SetTable.sizeAbove wanted - 1 = M) (hM : Pow M) (hn : hs.size ≤ M) :
    ∃ t' order, t.relaid hs wanted = some (t', order) ∧ order.toList.Perm (List.range hs.size) ∧ Tab t' (order.toList.map fun i => hs.getD i 0) ∧ t'.mask = M ∧ t'.led = t.led ∧ t'.plain = t.plain := by
  obtain ⟨owner, f, W⟩ := fold_own hM hs.toList [] _ (Own.init M) (by rw [Array.length_toList]; show 0 + hs.size ≤ M; omega)
  rw [List.nil_append] at f W
  have hr : t.relaid hs wanted = some (tabOf t M owner, ((liveOf M owner).map (·.2)).toArray) := by
    rw [relaid_eq, hw, layClean_eq, show hs.toList.foldl (stepF M) (some (Array.replicate (M + 1) none, 0)) = some (owner, hs.toList.length) from f]
    rfl
  have hlt : Ris (List.range (M + 1)) := by unfold Ris; first | exact List.pairwise_lt_range | exact List.pairwise_lt_range _
  have ris := ris_live (fun j => owner.getD j none) _ hlt
  have r1 : Ris ((liveOf M owner).map (·.1)) := ris.1
  have r2 : ∀ x ∈ (liveOf M owner).map (·.1), x ∈ List.range (M + 1) := ris.2
  have len : (liveOf M owner).length = hs.size := by
    obtain ⟨ps, p1, p2⟩ := W.ps
    have nd : ((liveOf M owner).map (·.1)).Nodup := List.Pairwise.imp (fun h => Nat.ne_of_lt h) r1
    have a := nat_nodup_len _ ps nd fun x hx => by
      obtain ⟨⟨y, k⟩, hq, rfl⟩ := List.mem_map.mp hx
      have b := (mem_live W.sz).1 hq
      exact p2 y b.1 (by rw [b.2]; exact Option.some_ne_none _)
    have b := nat_nodup_len (List.range hs.size) ((liveOf M owner).map (·.2)) List.nodup_range fun k hk => by
      obtain ⟨j, b1, b2⟩ := W.all k (by rw [Array.length_toList]; exact List.mem_range.mp hk)
      exact List.mem_map.mpr ⟨_, (mem_live W.sz).2 ⟨b1, b2⟩, rfl⟩
    rw [List.length_map, p1] at a
    have hz : hs.toList.length = hs.size := rfl
    rw [List.length_map, List.length_range] at b
    omega
  refine ⟨tabOf t M owner, _, hr, perm_range hs.size _ ((List.length_map _).trans len) fun k hk => ?_, ⟨hM, r1, rfl, ?_, fun x hx => Nat.le_of_lt_succ (List.mem_range.mp (r2 x hx)), fun i h j h1 h2 => ?_⟩, rfl, rfl, rfl⟩
  · obtain ⟨j, b1, b2⟩ := W.all k (by rw [Array.length_toList]; exact hk)
    exact List.mem_map.mpr ⟨_, (mem_live W.sz).2 ⟨b1, b2⟩, rfl⟩
  · show ((liveOf M owner).map (·.1)).toArray.size = (((liveOf M owner).map (·.2)).map fun i => hs.getD i 0).length
    simp only [List.size_toArray, List.length_map]
  · replace h1 : (((liveOf M owner).map (·.2)).map fun i => hs.getD i 0)[i]? = some h := h1
    replace h2 : ((liveOf M owner).map (·.1))[i]? = some j := h2
    rw [List.getElem?_map, List.getElem?_map] at h1
    rw [List.getElem?_map] at h2
    cases hq : (liveOf M owner)[i]? with
    | none => rw [hq] at h2; cases h2
    | some q =>
      obtain ⟨y, k⟩ := q
      rw [hq] at h1 h2
      cases h2; cases h1
      obtain ⟨b1, b2⟩ := (mem_live W.sz).1 (List.mem_of_getElem? hq)
      obtain ⟨h0, K, a1, a2, a3⟩ := W.at_ y k b1 b2
      have e0 : hs.getD k 0 = h0 := by
        rw [Array.getD_eq_getD_getElem?, ← Array.getElem?_toList, a1]; rfl
      show ∃ k2, way M (hs.getD k 0) k2 = y ∧ ∀ c, c < k2 → way M (hs.getD k 0) c ∈ (liveOf M owner).map (·.1)
      rw [e0]
      refine ⟨K, a2, fun c hc => ?_⟩
      show way M h0 c ∈ (liveOf M owner).map (·.1)
      cases z : oAt owner (way M h0 c) with
      | none => exact absurd z (a3 c hc)
      | some k2 => exact List.mem_map.mpr ⟨_, (mem_live W.sz).2 ⟨way_in, z⟩, rfl⟩
end LS
/-! LSet2: the set itself: search, add, fill, sorted. -/
namespace LS
open PySem PySem.Spec PyProof.Rows L2
section
variable {P : Program} {w : World} {κ : Type} [DecidableEq κ] {A : Around} {E : Value → Shared → Prop} {s : Shared}
/-- items that are hashed and compared without a word -/
structure Quiet (knd : KeyKind P w κ) : Prop where
  cls : ∀ k v n, knd.is k v = true → ofAClassStatement n v = pure false
  val : ∀ k v n, knd.is k v = true → ∃ b, hashByValue n v = pure b
theorem quiet_str : Quiet (strKind P w) where
  cls := fun k v n h => by obtain ⟨t, rfl⟩ := Value.isStrOf_shape h; cases n <;> rfl
  val := fun k v n h => by obtain ⟨t, rfl⟩ := Value.isStrOf_shape h; exact ⟨false, by cases n <;> rfl⟩
theorem quiet_int : Quiet (intKind P w) where
  cls := fun k v n h => by obtain ⟨t, rfl⟩ := Value.isInt_shape h; cases n <;> rfl
  val := fun k v n h => by obtain ⟨t, rfl⟩ := Value.isInt_shape h; exact ⟨true, by cases n <;> rfl⟩
variable {knd : KeyKind P w κ}
theorem items_all {p : Value → Prop} {k : List κ} {vs : List Value} (h : ItemsAre knd k vs) (hp : ∀ x v, knd.is x v = true → p v) : ∀ v ∈ vs, p v := by
  induction h with
  | nil => exact fun _ z => nomatch z
  | cons h1 _ ih => exact fun v z => (List.mem_cons.mp z).elim (fun e => e ▸ hp _ _ h1) (ih v)
theorem noClass (Z : Quiet knd) {k : List κ} {b : Addr} {Q : Bool → Shared → Prop} (hk : IsTupleKey knd s.heap k b) (h : Q false s) : wpAny (model P w) A (ofAClassStatement 8 (.ref b)) Q E s := by
  have T := hk.typeIs
  obtain ⟨o, its, n, ho, _, hd, hi⟩ := hk
  unfold ofAClassStatement
  refine wpAny_bind (wpAny_typeOf T ?_)
  dsimp only
  simp only [show (("tuple" : String) == "tuple") = true by decide, if_true, Bool.not_true, Bool.false_eq_true, if_false]
  try refine wpAny_bind (wpAny_pure ?_)
  try simp only [Bool.not_true, Bool.false_eq_true, if_false]
  refine wpAny_bind (m := seqItems? (.ref b)) (wpAny_seqItems ho hd (wpAny_bind ?_))
  show wpAny _ _ (forIn its _ _) _ _ s
  rw [← Array.forIn_toList]
  refine wpAny_forIn_list _ (fun rest r s' => (r.1 = none ∧ s' = s) ∧ ∀ v ∈ rest, ofAClassStatement 7 v = pure false) _ (fun v rest r s' ⟨⟨e1, e2⟩, e3⟩ => ?_) (fun r s' ⟨⟨e1, e2⟩, _⟩ => ?_) _ _ ⟨⟨rfl, rfl⟩, items_all hi fun x v hx => Z.cls x v 7 hx⟩
  · rw [e3 v List.mem_cons_self]
    refine wpAny_bind (wpAny_pure ?_)
    simp only [Bool.false_eq_true, if_false]
    exact wpAny_pure ⟨⟨rfl, e2⟩, fun u hu => e3 u (List.mem_cons_of_mem _ hu)⟩
  · obtain ⟨r1, r2⟩ := r
    dsimp only at e1
    subst e1 e2
    exact wpAny_pure h
theorem byValue (Z : Quiet knd) {k : List κ} {b : Addr} {Q : Bool → Shared → Prop} (hk : IsTupleKey knd s.heap k b) (h : ∀ z, Q z s) : wpAny (model P w) A (hashByValue 8 (.ref b)) Q E s := by
  have T := hk.typeIs
  obtain ⟨o, its, n, ho, _, hd, hi⟩ := hk
  unfold hashByValue
  refine wpAny_bind (wpAny_specialOf T F.slot_tuple_hash.lookup ?_)
  refine wpAny_bind (m := seqItems? (.ref b)) (wpAny_seqItems ho hd (wpAny_bind ?_))
  show wpAny _ _ (forIn its _ _) _ _ s
  rw [← Array.forIn_toList]
  refine wpAny_forIn_list _ (fun rest r s' => s' = s ∧ ∀ v ∈ rest, ∃ z, hashByValue 7 v = pure z) _ (fun v rest r s' ⟨e2, e3⟩ => ?_) (fun r s' ⟨e2, _⟩ => ?_) _ _ ⟨rfl, items_all hi fun x v hx => Z.val x v 7 hx⟩
  · obtain ⟨z, hz⟩ := e3 v List.mem_cons_self
    rw [hz]
    subst e2
    refine wpAny_bind (wpAny_pure ?_)
    cases z with
    | true =>
      simp only [Bool.not_true, Bool.false_eq_true, if_false]
      exact wpAny_pure ⟨rfl, fun u hu => e3 u (List.mem_cons_of_mem _ hu)⟩
    | false =>
      simp only [Bool.not_false, if_true]
      exact wpAny_pure (by dsimp only; exact wpAny_pure (h _))
  · obtain ⟨r1, r2⟩ := r
    subst e2
    cases r1 with
    | none => exact wpAny_pure (h _)
    | some z => exact wpAny_pure (h _)
theorem notSeen (Z : Quiet knd) {k : List κ} {b : Addr} {Q : Bool → Shared → Prop} (hk : IsTupleKey knd s.heap k b) {ys : List Value} (hy : ∀ y ∈ ys, ∃ k' c, y = Value.ref c ∧ IsTupleKey knd s.heap k' c) (h : Q false s) :
    wpAny (model P w) A (searchCouldBeSeen (.ref b) ys) Q E s := by
  unfold searchCouldBeSeen
  refine wpAny_bind (wpAny_forIn_list _ (fun rest r s' => (r.1 = none ∧ s' = s) ∧ ∀ y ∈ rest, ∃ k' c, y = Value.ref c ∧ IsTupleKey knd s.heap k' c) _ (fun v rest r s' ⟨⟨e1, e2⟩, e3⟩ => ?_) (fun r s' ⟨⟨e1, e2⟩, _⟩ => ?_) _ _ ⟨⟨rfl, rfl⟩, hy⟩)
  · subst e2
    obtain ⟨k', c, rfl, hc⟩ := e3 v List.mem_cons_self
    have fin : ∀ r : Option Bool × PUnit, r.1 = none → (r.1 = none ∧ s' = s') ∧ ∀ y ∈ rest, ∃ k' c, y = Value.ref c ∧ IsTupleKey knd s'.heap k' c := fun r hr => ⟨⟨hr, rfl⟩, fun u hu => e3 u (List.mem_cons_of_mem _ hu)⟩
    dsimp only
    by_cases hv : (b == c || (carriedByValue (.ref b) && carriedByValue (.ref c))) = true
    · exact wp_if_pos hv (wpAny_pure (fin _ rfl))
    · refine wp_if_neg hv (wpAny_bind (wpAny_eqIsQuiet_tuple hk ?_))
      simp only [Bool.not_true, Bool.false_eq_true, if_false]
      refine wpAny_bind (wpAny_eqIsQuiet_tuple hc ?_)
      simp only [Bool.not_true, Bool.false_eq_true, if_false]
      refine wpAny_bind (noClass Z hk ?_)
      simp only [Bool.false_eq_true, if_false]
      refine wpAny_bind (noClass Z hc ?_)
      simp only [Bool.false_eq_true, if_false]
      exact wpAny_pure (fin _ rfl)
  · obtain ⟨r1, r2⟩ := r
    dsimp only at e1
    subst e1 e2
    exact wpAny_pure h
variable (knd) in
abbrev hsh (k : List κ) : Int := tupleKeyHash knd k
variable (knd) in
def rws (L : List (Addr × List κ)) : List (Int × Value) := L.map fun p => (hsh knd p.2, Value.ref p.1)
variable (knd) in
structure SetT (h : Heap) (a : Addr) (L : List (Addr × List κ)) (es : Array (Int × Value)) (ep : Nat) (t : SetTable) : Prop where
  ob : ∃ o, h.get? a = some o ∧ o.ExactSet ∧ o.data = .set es ep t
  rows : es.toList = rws knd L
  tab : Tab t (L.map fun p => hsh knd p.2)
  nd : (L.map (·.2)).Nodup
  tup : ∀ p ∈ L, IsTupleKey knd h p.2 p.1
  led : w.params.followText "set-order" = true ∨ t.led = true
  room : L.length * 5 < t.mask * 3
  few : L.length < 1000
variable {a : Addr} {L : List (Addr × List κ)} {es : Array (Int × Value)} {ep : Nat} {t : SetTable}
theorem rws_size (h : es.toList = rws knd L) : es.size = L.length := by
  rw [← Array.length_toList, h, rws, List.length_map]
theorem fits_of (T : Tab t (L.map fun p => hsh knd p.2)) (h : es.size = L.length) (hm : L.length ≤ t.mask) : t.fits es.size = true := by
  have q := T.sz
  rw [List.length_map] at q
  unfold SetTable.fits SetTable.fill
  rw [T.dm, Bool.and_eq_true, beq_iff_eq, decide_eq_true_eq]
  exact ⟨q.trans h.symm, by show t.place.size + 0 ≤ t.mask; omega⟩
theorem SetT.fits (R : SetT knd s.heap a L es ep t) : t.fits es.size = true := fits_of R.tab (rws_size R.rows) (by have := R.room; omega)
theorem row_at (h : es.toList = rws knd L) {i : Nat} {p : Addr × List κ} (hp : L[i]? = some p) : es[i]? = some (hsh knd p.2, Value.ref p.1) := by
  rw [← Array.getElem?_toList, h, rws, List.getElem?_map, hp]; rfl
theorem pow_stays (T : Tab t hs) : ¬ t.gaveWay = true := by
  unfold SetTable.gaveWay
  rw [T.pow.odd]
  decide
/-- the search, from the c-th step on -/
theorem look (Z : Quiet knd) (R : SetT knd s.heap a L es ep t) {x : Addr} {k : List κ} (hx : IsTupleKey knd s.heap k x) (hu : A.units < cLine) {K : Nat} (hKf : K < 10 * SetTable.turns t.mask)
    (hK : way t.mask (hsh knd k) K ∉ t.place.toList) (hKb : ∀ c, c < K → way t.mask (hsh knd k) c ∈ t.place.toList) {Q : SetFound → Shared → Prop} (yes : k ∈ L.map (·.2) → Q (.there none) s) (no : k ∉ L.map (·.2) → Q (.free (way t.mask (hsh knd k) K) false) s) {base : SetTable.Probe} (hbase : base = runAt t.mask (SetTable.bits (hsh knd k) % (t.mask + 1)) (SetTable.bits (hsh knd k))) :
    ∀ (f c : Nat) (stand : Option SetTable.Probe), stand.getD (t.probeStart (hsh knd k)) = nth t.mask base c → c ≤ K → K - c < f →
      (∀ (i : Nat) p, L[i]? = some p → p.2 = k → ∃ c', (c ≤ c' ∧ c' < K) ∧ t.place.toList[i]? = some (way t.mask (hsh knd k) c')) →
      wpAny (model P w) A (setSearchFrom a (.ref x) (hsh knd k) true f stand) Q E s
  | 0, _, _, _, _, z, _ => absurd z (Nat.not_lt_zero _)
  | f + 1, c, stand, hst, hc, hf, hre => by
    obtain ⟨o, ho, _, hd⟩ := R.ob
    have dmN : ∀ (n : Nat) (p : SetTable.Probe), p.dummy = none → (nth t.mask p n).dummy = none := fun n => by
      induction n with
      | zero => exact fun _ z => z
      | succ n ih => exact fun p z => ih (adv t.mask p) (by unfold adv; split <;> exact z)
    have sh : ∀ q, nth t.mask (nth t.mask base c) q = nth t.mask base (c + q) := fun q => (nth_add t.mask c base q).symm
    have wj : ∀ q, (nth t.mask (nth t.mask base c) q).j = way t.mask (hsh knd k) (c + q) := fun q => by rw [sh, hbase]
    have hit : ∀ (i : Nat) p, L[i]? = some p → (es[i]?.map (·.1)).getD 0 = hsh knd p.2 := fun i p hp => by rw [row_at R.rows hp]; rfl
    rw [setSearchFrom_succ]
    refine wpAny_bind (wpAny_setState_of ho hd R.fits ?_)
    dsimp only
    refine wp_if_neg (pow_stays R.tab) ?_
    try refine wpAny_bind (wpAny_pure ?_)
    rcases go_spec t R.tab.ris R.tab.dm (fun i => (es[i]?.map (·.1)).getD 0) (hsh knd k) (10 * SetTable.turns t.mask) (K - c) (nth t.mask base c) (dmN c base (by rw [hbase]; rfl)) (by omega) (fun q hq => by rw [wj]; exact hKb _ (by omega)) (by rw [wj, show c + (K - c) = K by omega]; exact hK) with ⟨q, i, hq, hi, hh, hno, hpr⟩ | ⟨hno, hpr⟩
    · rw [wj] at hi
      have met : t.probe (fun i => (es[i]?.map (·.1)).getD 0) (hsh knd k) (stand.getD (t.probeStart (hsh knd k))) = some (.candidate (way t.mask (hsh knd k) (c + q)) i (nth t.mask base (c + (q + 1)))) := by
        rw [hst, ← wj, ← sh]; exact hpr
      rw [met]
      dsimp only
      have hil : i < L.length := by
        have h1 := (List.getElem?_eq_some_iff.mp hi).1
        have h2 := R.tab.sz
        rw [List.length_map] at h2
        rw [Array.length_toList] at h1
        omega
      obtain ⟨p, hp⟩ : ∃ p, L[i]? = some p := ⟨_, List.getElem?_eq_getElem hil⟩
      have hpm := List.mem_of_getElem? hp
      have live : t.slot (way t.mask (hsh knd k) (c + q)) = .live i := slot_live R.tab.ris hi
      have rest : wpAny (model P w) A (searchRest a (.ref x) (hsh knd k) true f es t (way t.mask (hsh knd k) (c + q)) i (nth t.mask base (c + (q + 1)))) Q E s := by
        unfold searchRest
        rw [row_at R.rows hp]
        dsimp only
        refine wpAny_bind (wpAny_holding (wpAny_eqBool_tuple hu (R.tup p hpm) hx (wpAny_bind (wpAny_setState_of ho hd R.fits ?_))))
        dsimp only
        by_cases same : p.2 = k
        · exact wp_if_pos (by simp [same]) (wpAny_pure (yes (List.mem_map.mpr ⟨p, hpm, same⟩)))
        · refine wp_if_neg (by simp [same]) ?_
          try refine wpAny_bind (wpAny_pure ?_)
          rw [sameMem]
          dsimp only
          simp only [if_true, live, row_at R.rows hp]
          refine wpAny_bind (wpAny_isSame_ref_self (wpAny_bind (wpAny_pure ?_)))
          simp only [if_true]
          refine wp_if_neg (by simp [same]) (look Z R hx hu hKf hK hKb yes no hbase f (c + (q + 1)) _ rfl (by omega) (by omega) fun i0 p0 h0 hk0 => ?_)
          obtain ⟨c', ⟨a1, a2⟩, a3⟩ := hre i0 p0 h0 hk0
          refine ⟨c', ⟨Classical.byContradiction fun z => ?_, a2⟩, a3⟩
          by_cases y : c' = c + q
          · rw [y] at a3
            have s0 := slot_live R.tab.ris a3
            rw [live] at s0
            cases s0
            rw [hp] at h0
            cases h0
            exact same hk0
          · exact hno (c' - c) i0 (by omega) (by rw [wj, show c + (c' - c) = c' by omega]; exact a3) ((hit i0 p0 h0).trans (congrArg (hsh knd) hk0))
      by_cases hl : t.led = true
      · refine wp_if_neg (by simp [hl]) ?_
        try refine wpAny_bind (wpAny_pure ?_)
        exact rest
      · refine wp_if_pos (by simp [hl]) (wpAny_bind (notSeen Z hx (fun y hy => ?_) (wp_if_neg (by decide) ?_)))
        · obtain ⟨e, he, rfl⟩ := List.mem_map.mp hy
          have he1 : e ∈ es.toList := by
            have : e ∈ es ∧ e.1 = hsh knd k := by simpa using he
            simpa using this.1
          rw [R.rows] at he1
          obtain ⟨p2, hp2, rfl⟩ := List.mem_map.mp he1
          exact ⟨p2.2, p2.1, rfl, R.tup p2 hp2⟩
        · try refine wpAny_bind (wpAny_pure ?_)
          exact rest
    · have met : t.probe (fun i => (es[i]?.map (·.1)).getD 0) (hsh knd k) (stand.getD (t.probeStart (hsh knd k))) = some (.empty (way t.mask (hsh knd k) K) none) := by
        rw [hst, show way t.mask (hsh knd k) K = (nth t.mask (nth t.mask base c) (K - c)).j by rw [wj, show c + (K - c) = K by omega]]
        exact hpr
      rw [met]
      dsimp only
      refine wpAny_pure (no fun hm => ?_)
      obtain ⟨p0, h0, hk0⟩ := List.mem_map.mp hm
      obtain ⟨i0, hi0, e0⟩ := List.getElem_of_mem h0
      have h00 : L[i0]? = some p0 := (List.getElem?_eq_getElem hi0).trans (congrArg some e0)
      obtain ⟨c', ⟨a1, a2⟩, a3⟩ := hre i0 p0 h00 hk0
      exact hno (c' - c) i0 (by omega) (by rw [wj, show c + (c' - c) = c' by omega]; exact a3) ((hit i0 p0 h00).trans (congrArg (hsh knd) hk0))
theorem looked (Z : Quiet knd) (R : SetT knd s.heap a L es ep t) {x : Addr} {k : List κ} (hx : IsTupleKey knd s.heap k x) (hu : A.units < cLine) {Q : SetFound → Shared → Prop} (yes : k ∈ L.map (·.2) → Q (.there none) s)
    (no : ∀ K, k ∉ L.map (·.2) → way t.mask (hsh knd k) K ∉ t.place.toList → (∀ c, c < K → way t.mask (hsh knd k) c ∈ t.place.toList) → Q (.free (way t.mask (hsh knd k) K) false) s) : wpAny (model P w) A (setSearch a (.ref x) (hsh knd k) true) Q E s := by
  have hr := R.room
  obtain ⟨K, hKf, hK, hKb⟩ := R.tab.gap (by rw [List.length_map]; omega) (hsh knd k)
  have hm := R.tab.pow.le
  refine look Z R hx hu hKf hK hKb yes (fun hn => no K hn hK hKb) rfl 100000 0 none rfl (Nat.zero_le _) (by unfold SetTable.turns at hKf; omega) fun i p hp hk => ?_
  have hil : i < t.place.toList.length := by
    have h1 := (List.getElem?_eq_some_iff.mp hp).1
    have h2 := R.tab.sz
    rw [List.length_map] at h2
    rw [Array.length_toList]
    omega
  have hj := List.getElem?_eq_getElem hil
  obtain ⟨c, hc, e⟩ := R.tab.ahead hK (i := i) (by rw [List.getElem?_map, hp, ← hk]; rfl) hj
  exact ⟨c, ⟨Nat.zero_le _, hc⟩, by rw [hj, e]⟩
theorem key_same {h h' : Heap} {k : List κ} {b : Addr} {o : Obj} (hb : IsTupleKey knd h k b) (ho : h.get? a = some o) (hd : o.data = .set es ep t) (hs : Heap.SameBut a h h') : IsTupleKey knd h' k b := by
  obtain ⟨o', its, n, ho', r⟩ := hb
  refine ⟨o', its, n, (hs.2 b fun e => ?_).trans ho', r⟩
  subst e
  cases ho'.symm.trans ho
  have := r.2.1
  rw [hd] at this
  cases this
theorem key_keep {h h' : Heap} {k : List κ} {b : Addr} (hb : IsTupleKey knd h k b) (e : ∀ c o, h.get? c = some o → h'.get? c = some o) : IsTupleKey knd h' k b := by
  obtain ⟨o', its, n, ho', r⟩ := hb
  exact ⟨o', its, n, e _ _ ho', r⟩
theorem range_pick {α : Type} (l : List α) : (List.range l.length).filterMap (fun i => l[i]?) = l := by
  have key : ∀ n, n ≤ l.length → (List.range n).filterMap (fun i => l[i]?) = l.take n := fun n => by
    induction n with
    | zero => exact fun _ => rfl
    | succ n ih =>
      intro hn
      rw [List.range_succ, List.filterMap_append, ih (Nat.le_of_lt hn), List.take_add_one, List.getElem?_eq_getElem hn, List.filterMap_cons_some (List.getElem?_eq_getElem hn)]; rfl
  rw [key l.length (Nat.le_refl _), List.take_length]
/-- the rows in another order -/
theorem reorder (order : Array Nat) (hr : es.toList = rws knd L) (hp : order.toList.Perm (List.range L.length)) :
    ∃ L2, (order.filterMap (es[·]?)).toList = rws knd L2 ∧ L2.Perm L ∧ (L2.map fun p => hsh knd p.2) = order.toList.map fun i => (es.map (·.1)).getD i 0 := by
  refine ⟨order.toList.filterMap fun i => L[i]?, ?_, by have := hp.filterMap fun i => L[i]?; rwa [range_pick] at this, ?_⟩
  all_goals
    have hb : ∀ i ∈ order.toList, i < L.length := fun i hi => List.mem_range.mp (hp.mem_iff.mp hi)
  · rw [Array.toList_filterMap]
    generalize order.toList = l at hb
    induction l with
    | nil => rfl
    | cons i l ih =>
      have hi := hb i List.mem_cons_self
      rw [List.filterMap_cons_some (row_at hr (List.getElem?_eq_getElem hi)), List.filterMap_cons_some (List.getElem?_eq_getElem hi), ih fun j hj => hb j (List.mem_cons_of_mem _ hj)]; rfl
  · generalize order.toList = l at hb
    induction l with
    | nil => rfl
    | cons i l ih =>
      have hi := hb i List.mem_cons_self
      have e5 : (es.map (·.1))[i]? = some (hsh knd (L[i]).2) := by rw [Array.getElem?_map, row_at hr (List.getElem?_eq_getElem hi)]; rfl
      rw [List.filterMap_cons_some (List.getElem?_eq_getElem hi), List.map_cons, List.map_cons, ih fun j hj => hb j (List.mem_cons_of_mem _ hj), Array.getD_eq_getD_getElem?, e5]; rfl
theorem sizes : ∀ n, n < 4096 → (∃ k, 3 ≤ k ∧ k ≤ 12 ∧ SetTable.sizeAbove n = 2 ^ k) ∧ n < SetTable.sizeAbove n := by
  have h : ((List.range 4096).all fun n => ((List.range 13).any fun k => decide (3 ≤ k) && decide (SetTable.sizeAbove n = 2 ^ k)) && decide (n < SetTable.sizeAbove n)) = true := by decide +kernel
  intro n hn
  have := List.all_eq_true.mp h n (List.mem_range.mpr hn)
  rw [Bool.and_eq_true, List.any_eq_true, decide_eq_true_eq] at this
  obtain ⟨⟨k, hk, h2⟩, h3⟩ := this
  rw [Bool.and_eq_true, decide_eq_true_eq, decide_eq_true_eq] at h2
  exact ⟨⟨k, h2.1, by have := List.mem_range.mp hk; omega, h2.2⟩, h3⟩
end
end LS
/-! LSet3: one is put in; set(xs); sorted(set). -/
namespace LS
open PySem PySem.Spec PyProof.Rows L2
section
variable {P : Program} {w : World} {κ : Type} [DecidableEq κ] {A : Around} {E : Value → Shared → Prop} {s : Shared} {knd : KeyKind P w κ}
variable {a : Addr} {L : List (Addr × List κ)} {es : Array (Int × Value)} {ep : Nat} {t : SetTable}
theorem relay {o : Obj} (ho : s.heap.get? a = some o) (hex : o.ExactSet) (hd : o.data = .set es ep t) (hr : es.toList = rws knd L) (T : Tab t (L.map fun p => hsh knd p.2)) (nd : (L.map (·.2)).Nodup) (tup : ∀ p ∈ L, IsTupleKey knd s.heap p.2 p.1)
    (led : w.params.followText "set-order" = true ∨ t.led = true) (few : L.length < 1000) (pos : 0 < L.length) (hm : L.length ≤ t.mask) {Q : Unit → Shared → Prop}
    (hQ : ∀ h' L' es' ep' t', Heap.SameBut a s.heap h' → SetT knd h' a L' es' ep' t' → L'.Perm L → Q () { s with heap := h' }) : wpAny (model P w) A (setRelay a (SetTable.grown es.size)) Q E s := by
  have sl := rws_size hr
  have hg : SetTable.grown es.size = L.length * 4 := by rw [sl]; unfold SetTable.grown; rw [if_neg (by omega)]
  obtain ⟨⟨k, k3, k12, ek⟩, hlt⟩ := sizes (L.length * 4) (by omega)
  have big : (2 : Nat) ^ k ≤ 2 ^ 12 := Nat.pow_le_pow_right (by decide) k12
  have hpos : 0 < (2 : Nat) ^ k := Nat.pow_pos (by decide)
  rw [hg, setRelay_eq]
  have hM : Pow (SetTable.sizeAbove (L.length * 4) - 1) := ⟨k, k3, k12, by rw [ek]; omega⟩
  obtain ⟨t', order, e, hp, T', em, el, _⟩ := relaid_at t (hs := es.map (·.1)) (wanted := L.length * 4) rfl hM (by rw [Array.size_map, sl]; omega)
  rw [Array.size_map, sl] at hp
  obtain ⟨L2, r1, r2, r3⟩ := reorder order hr hp
  rw [← r3] at T'
  have s2 := rws_size r1
  refine wpAny_bind (wpAny_setState_of ho hd (fits_of T sl hm) ?_)
  dsimp only
  refine wp_if_neg (by rw [sizeLine_eq, ek]; omega) ?_
  try refine wpAny_bind (wpAny_pure ?_)
  rw [e]
  refine wpAny_bind (wp_if_neg (by rw [s2, r2.length_eq, sl]; simp) ?_)
  try refine wpAny_bind (wpAny_pure ?_)
  refine wpAny_pure ?_
  dsimp only
  refine wpAny_storeSet_of ho hd ?_ (by rw [s2, r2.length_eq, sizeLine_eq]; omega)
  have sb : Heap.SameBut a s.heap (s.heap.update a (Obj.putSet (order.filterMap (es[·]?)) t')) := Heap.SameBut.update ..
  exact hQ _ L2 _ (ep + 1) t' sb ⟨⟨_, store_at ho hd, ⟨hex.1, hex.2.1, hex.2.2⟩, rfl⟩, r1, T', (r2.map (·.2)).nodup_iff.mpr nd, fun p hpm => key_same (tup p (r2.mem_iff.mp hpm)) ho hd sb, el ▸ led, by rw [em, r2.length_eq]; omega, by rw [r2.length_eq]; exact few⟩ r2
/-- one is put in -/
theorem put_in (Z : Quiet knd) (R : SetT knd s.heap a L es ep t) {x : Addr} {k : List κ} (hx : IsTupleKey knd s.heap k x) (hu : A.units < cLine) (hfew : L.length + 1 < 1000) {Q : Bool → Shared → Prop}
    (hQ : ∀ b h' L' es' ep' t', Heap.SameBut a s.heap h' → SetT knd h' a L' es' ep' t' → (k ∈ L.map (·.2) → L' = L) → (k ∉ L.map (·.2) → L'.Perm ((x, k) :: L)) → Q b { s with heap := h' }) :
    wpAny (model P w) A (setAddHashed a (.ref x) (hsh knd k)) Q E s := by
  obtain ⟨o, ho, hex, hd⟩ := R.ob
  have sl := rws_size R.rows
  have room := R.room
  unfold setAddHashed
  refine wpAny_holding ?_
  rw [show (100000 : Nat) = 99999 + 1 from rfl, setAddHashedIn_succ]
  refine wpAny_bind (wpAny_setState_of ho hd R.fits ?_)
  dsimp only
  refine wp_if_neg (by simp [byScan, Value.scannable]) ?_
  try refine wpAny_bind (wpAny_pure ?_)
  refine wpAny_bind (looked Z R hx hu (fun hm => wpAny_pure (hQ false s.heap L es ep t (Heap.SameBut.refl a s.heap) R (fun _ => rfl) fun z => absurd hm z)) fun K hm hK hb => ?_)
  dsimp only
  refine wpAny_bind (wpAny_setState_of ho hd R.fits ?_)
  dsimp only
  obtain ⟨q1, q2, q3, q9⟩ := R.tab.put hK hb rfl
  have qm : (t.put (way t.mask (hsh knd k) K)).1.mask = t.mask := rfl
  have ql : (t.put (way t.mask (hsh knd k) K)).1.led = t.led := rfl
  have hin : (SetTable.insertAt es (SetTable.below t.place (way t.mask (hsh knd k) K)) (hsh knd k, Value.ref x)).toList = rws knd (L.take (SetTable.below t.place (way t.mask (hsh knd k) K)) ++ (x, k) :: L.drop (SetTable.below t.place (way t.mask (hsh knd k) K))) := by
    rw [SetTable.toList_insertAt, R.rows]
    unfold rws
    rw [List.map_append, List.map_cons, List.map_take, List.map_drop]
  generalize t.put (way t.mask (hsh knd k) K) = pt at q1 q3 q9 qm ql ⊢
  obtain ⟨t1, p⟩ := pt
  dsimp only at q1 q3 q9 qm ql ⊢
  subst q1
  generalize SetTable.below t.place (way t.mask (hsh knd k) K) = p at q2 q3 hin ⊢
  have pm := put_perm L p (x, k)
  have hhs : (L.take p ++ (x, k) :: L.drop p).map (fun p => hsh knd p.2) = (L.map fun p => hsh knd p.2).take p ++ hsh knd k :: (L.map fun p => hsh knd p.2).drop p := by
    rw [List.map_append, List.map_cons, List.map_take, List.map_drop]
  rw [← hhs] at q3
  have nd1 : ((L.take p ++ (x, k) :: L.drop p).map (·.2)).Nodup := (pm.map (·.2)).nodup_iff.mpr (by rw [List.map_cons]; exact List.nodup_cons.mpr ⟨hm, R.nd⟩)
  have sz := rws_size hin
  have ln : (L.take p ++ (x, k) :: L.drop p).length = L.length + 1 := pm.length_eq
  generalize SetTable.insertAt es p (hsh knd k, Value.ref x) = es1 at hin sz ⊢
  generalize L.take p ++ (x, k) :: L.drop p = L1 at pm ln q3 nd1 hin sz
  -- whatever is known of the item's hash
  have rest : ∀ t2 : SetTable, t2.mask = t1.mask → t2.place = t1.place → t2.dummies = t1.dummies → t2.led = t1.led → t2.fill = t1.fill → wpAny (model P w) A (do
      storeSet a es1 t2
      if (!false && t2.tooFull) = true then do
          setRelay a (SetTable.grown (es.size + 1))
          return true
        else return true) Q E s := fun t2 e1 e2 e3 e4 e5 => by
    have T2 : Tab t2 (L1.map fun p => hsh knd p.2) := ⟨e1 ▸ q3.pow, e2 ▸ q3.ris, e3.trans q3.dm, e2 ▸ q3.sz, by rw [e1, e2]; exact q3.top, by rw [e1, e2]; exact q3.led⟩
    refine wpAny_bind (wpAny_storeSet_of ho hd ?_ (by rw [sz, ln, sizeLine_eq]; omega))
    have sb : Heap.SameBut a s.heap (s.heap.update a (Obj.putSet es1 t2)) := Heap.SameBut.update ..
    have ho1 := store_at (es' := es1) (t' := t2) ho hd
    generalize s.heap.update a (Obj.putSet es1 t2) = h1 at sb ho1 ⊢
    have tup1 : ∀ p ∈ L1, IsTupleKey knd h1 p.2 p.1 := fun p hp => by
      rcases List.mem_cons.mp (pm.mem_iff.mp hp) with e | hp
      · rw [e]; exact key_same hx ho hd sb
      · exact key_same (R.tup p hp) ho hd sb
    have led1 : w.params.followText "set-order" = true ∨ t2.led = true := by rw [e4, ql]; exact R.led
    have fl : t2.fill = L.length + 1 := by rw [e5, q9, List.length_map]
    by_cases hf : t2.tooFull = true
    · have es1sz : es.size + 1 = es1.size := by rw [sz, ln, sl]
      refine wp_if_pos (by simp [hf]) (wpAny_bind ?_)
      rw [es1sz]
      refine relay (s := { s with heap := h1 }) ho1 ⟨hex.1, hex.2.1, hex.2.2⟩ rfl hin T2 nd1 tup1 led1 (by rw [ln]; exact hfew) (by rw [ln]; exact Nat.succ_pos _) (by rw [ln, e1, qm]; omega) fun h2 L2 es2 ep2 t3 sb2 R2 pm2 => ?_
      exact wpAny_pure (hQ true h2 L2 es2 ep2 t3 (sb.trans sb2) R2 (fun z => absurd z hm) fun _ => pm2.trans pm)
    · refine wp_if_neg (by simp [hf]) (wpAny_pure (hQ true h1 L1 es1 (ep + 1) t2 sb ⟨⟨_, ho1, ⟨hex.1, hex.2.1, hex.2.2⟩, rfl⟩, hin, T2, nd1, tup1, led1, ?_, by rw [ln]; exact hfew⟩ (fun z => absurd z hm) fun _ => pm))
      have hf2 := hf
      unfold SetTable.tooFull at hf2
      rw [decide_eq_true_eq, fl] at hf2
      rw [ln]
      omega
  by_cases hp1 : t1.plain = true
  · first
      | (refine wpAny_bind ?_; refine wp_if_pos hp1 (byValue Z hx fun z => ?_))
      | refine wp_if_pos hp1 (wpAny_bind (byValue Z hx fun z => ?_))
    cases z with
    | true => simp only [if_true]; exact rest t1 rfl rfl rfl rfl rfl
    | false => simp only [Bool.false_eq_true, if_false]; exact rest _ rfl rfl rfl rfl rfl
  · first
      | (refine wpAny_bind ?_; refine wp_if_neg hp1 (wpAny_pure ?_))
      | refine wp_if_neg hp1 (wpAny_bind (wpAny_pure ?_))
    simp only [if_true]
    exact rest t1 rfl rfl rfl rfl rfl
/-- what the set has of the first i -/
structure Has (ks : List (Addr × List κ)) (i : Nat) (L : List (Addr × List κ)) : Prop where
  sub : ∀ p ∈ L, p ∈ ks.take i
  all : ∀ p ∈ ks.take i, p.2 ∈ L.map (·.2)
  len : L.length ≤ i
theorem Has.next {ks L L' : List (Addr × List κ)} {i : Nat} {x : Addr × List κ} (g : Has ks i L) (h : ks[i]? = some x) (c1 : x.2 ∈ L.map (·.2) → L' = L) (c2 : x.2 ∉ L.map (·.2) → L'.Perm (x :: L)) : Has ks (i + 1) L' := by
  have ht : ks.take (i + 1) = ks.take i ++ [x] := by rw [List.take_add_one, h]; rfl
  by_cases c : x.2 ∈ L.map (·.2)
  · obtain rfl := c1 c
    refine ⟨fun p hp => by rw [ht]; exact List.mem_append_left _ (g.sub p hp), fun p hp => ?_, Nat.le_succ_of_le g.len⟩
    rw [ht] at hp
    exact (List.mem_append.mp hp).elim (g.all p) fun z => by rw [List.mem_singleton.mp z]; exact c
  · have pm := c2 c
    refine ⟨fun p hp => ?_, fun p hp => ?_, by rw [pm.length_eq]; exact Nat.succ_le_succ g.len⟩
    · rw [ht]
      exact (List.mem_cons.mp (pm.mem_iff.mp hp)).elim (fun e => by rw [e]; simp) fun z => List.mem_append_left _ (g.sub p z)
    · rw [(pm.map (·.2)).mem_iff, List.map_cons]
      rw [ht] at hp
      exact (List.mem_append.mp hp).elim (fun z => List.mem_cons_of_mem _ (g.all p z)) fun z => by rw [List.mem_singleton.mp z]; exact List.mem_cons_self
theorem SetT.keep {h h' : Heap} (R : SetT knd h a L es ep t) (ha : ∀ o, h.get? a = some o → h'.get? a = some o) (ht : ∀ p ∈ L, IsTupleKey knd h' p.2 p.1) : SetT knd h' a L es ep t := by
  obtain ⟨o, ho, r⟩ := R.ob
  exact ⟨⟨o, ha o ho, r⟩, R.rows, R.tab, R.nd, ht, R.led, R.room, R.few⟩
abbrev emptySet (w : World) : Obj := { cls := .type "set", dict := none, data := .set #[] 0 (.fresh 0 0 (!w.params.followText "set-order")) }
theorem setT_new {h : Heap} (ho : h.get? a = some (emptySet w)) : SetT knd h a [] #[] 0 (.fresh 0 0 (!w.params.followText "set-order")) where
  ob := ⟨_, ho, ⟨rfl, rfl, rfl⟩, rfl⟩
  rows := rfl
  tab := ⟨⟨3, by decide, by decide, rfl⟩, List.Pairwise.nil, rfl, rfl, fun x hx => (nomatch hx), fun i h j hi => (by simp at hi)⟩
  nd := List.nodup_nil
  tup := fun p hp => nomatch hp
  led := by show _ ∨ (!w.params.followText "set-order") = true; cases w.params.followText "set-order" <;> simp
  room := by show 0 * 5 < 7 * 3; decide
  few := by show 0 < 1000; decide
/-- the loop that fills it -/
theorem fill {I : Addr} {fp wr : List Addr} {G : Array GenState → Array GenState → Prop} {n : Nat} {Pv : Nat → Value → Prop} {St : Nat → Shared → Prop} {R : Result → Shared → Prop} (Z : Quiet knd)
    (W : WalksS P w A.in1 I fp wr G n Pv St) {S : Addr} (hSf : S ∉ fp) {ks : List (Addr × List κ)} (hn : n = ks.length) (hfew : ks.length < 1000) (hval : ∀ i v, Pv i v → ∃ p, ks[i]? = some p ∧ v = .ref p.1)
    {h0 : Heap} (hk : ∀ p ∈ ks, IsTupleKey knd h0 p.2 p.1) (hS0 : h0.get? S = none) (hw0 : ∀ b ∈ wr, h0.get? b = none) (hu : A.in1.units < cLine) :
    ∀ (m i : Nat) (s : Shared), i + m = n → St i s → (∀ b o, h0.get? b = some o → s.heap.get? b = some o) → (∃ L es ep t, SetT knd s.heap S L es ep t ∧ Has ks i L) →
      (∀ s' L es ep t, Moved (S :: wr) G s s' → SetT knd s'.heap S L es ep t → Has ks n L → (∀ b o, h0.get? b = some o → s'.heap.get? b = some o) → R (.ok (.ret .none)) s') →
      codeAny (model P w) A (.builtin "set.update.loop" ⟨[.ref S, .ref I], []⟩) R s := by
  have hSw : S ∉ wr := fun h => hSf (W.sub _ h)
  have keepM : ∀ {s s' : Shared}, Moved wr G s s' → (∀ b o, h0.get? b = some o → s.heap.get? b = some o) → ∀ b o, h0.get? b = some o → s'.heap.get? b = some o := fun hm hkp b o e =>
    hm.heap b o (fun hb => by cases (hw0 b hb).symm.trans e) (hkp b o e)
  have keepS : ∀ {s s' : Shared} {i : Nat} {L es ep t}, Moved wr G s s' → (∀ b o, h0.get? b = some o → s.heap.get? b = some o) → Has ks i L → SetT knd s.heap S L es ep t → SetT knd s'.heap S L es ep t := fun hm hkp g hS =>
    hS.keep (fun o e => hm.heap S o hSw e) fun p hp => key_keep (hk p (List.mem_of_mem_take (g.sub p hp))) (keepM hm hkp)
  intro m
  induction m with
  | zero =>
    intro i s hi hst hkp ⟨L, es, ep, t, hS, g⟩ hR
    obtain rfl : i = n := hi
    refine codeAny_builtin F.entry_set_update_loop ?_
    rw [Around.under_plainId F.plain_set_update_loop _]
    refine wpAny_bind (m := pyNext (.ref I)) (W.done s _ _ hst fun s' hm => ?_)
    exact wpAny_pure (hR s' L es ep t (hm.mono fun b hb => List.mem_cons_of_mem _ hb) (keepS hm hkp g hS) g (keepM hm hkp))
  | succ m ih =>
    intro i s hi hst hkp ⟨L, es, ep, t, hS, g⟩ hR
    refine codeAny_builtin F.entry_set_update_loop ?_
    rw [Around.under_plainId F.plain_set_update_loop _]
    refine wpAny_bind (m := pyNext (.ref I)) (W.item i s _ _ (by omega) hst fun v s' hP hst' hm => ?_)
    obtain ⟨p, hp, rfl⟩ := hval i v hP
    have hkp' := keepM hm hkp
    have hx : IsTupleKey knd s'.heap p.2 p.1 := key_keep (hk p (List.mem_of_getElem? hp)) hkp'
    refine wpAny_bind (m := holding [Value.ref p.1] (setAdd S (.ref p.1))) (wpAny_holding ?_)
    unfold setAdd
    refine wpAny_holding (wpAny_bind (wpAny_pyHash_tuple hu hx ?_))
    have S1 := keepS hm hkp g hS
    refine put_in (s := { s' with toks := s'.toks + (p.2.length + 1) }) Z S1 hx hu (by have := g.len; omega) fun b h' L' es' ep' t' sb S2 c1 c2 => ?_
    have out : ∀ b, b ≠ S → h'.get? b = s'.heap.get? b := fun b hb => sb.2 b hb
    refine wpAny_pure ⟨plainId_quiet F.plain_set_update_loop _, ih (i + 1) _ (by omega) (W.frame _ s' _ _ hst' (Nat.le_add_right _ _) fun b hb o e => (out b fun z => hSf (z ▸ hb)).trans e) (fun b o e => (out b fun z => by rw [z, hS0] at e; cases e).trans (hkp' b o e)) ⟨L', es', ep', t', S2, g.next hp c1 c2⟩ fun s2 L2 es2 ep2 t2 hm2 S3 g3 k3 => ?_⟩
    exact hR s2 L2 es2 ep2 t2 (Moved.trans W.gtrans ((hm.mono fun b hb => List.mem_cons_of_mem _ hb).then_heap (Nat.le_add_right _ _) fun b o hb e => (out b fun z => hb (z ▸ List.mem_cons_self)).trans e) hm2) S3 g3 k3
/-- set(xs), xs a list of such tuples -/
theorem call_set {l : Addr} {items : Array Value} {ks : List (Addr × List κ)} {Q : Value → Shared → Prop} (Z : Quiet knd) (hh : A.handled = none) (hl : s.heap.IsList l items) (hit : items.toList = ks.map fun p => Value.ref p.1)
    (hk : ∀ p ∈ ks, IsTupleKey knd s.heap p.2 p.1) (hfew : ks.length < 1000) (hu : A.units + 3 < cLine)
    (h : ∀ (h' : Heap) (tk : Nat) L es ep t, SetT knd h' s.heap.objs.size L es ep t → Has ks ks.length L → (∀ b o, s.heap.get? b = some o → h'.get? b = some o) → Q (.ref s.heap.objs.size) { s with heap := h', toks := tk }) :
    wpAny (model P w) A (call (.type "set") [.ref l]) Q E s := by
  have sz : items.size = ks.length := by rw [← Array.length_toList, hit, List.length_map]
  obtain ⟨c, tl, mro⟩ := F.called_set.mro
  have made := F.called_set.made
  have sub := F.called_set.sub
  refine wpAny_call (codeAny_of_tree ?_)
  show wpAny _ _ (callAny (.type "set") _) _ _ _
  refine wpAny_pure ⟨Code.quiet_builtin _ (by decide +kernel), codeAny_builtin F.entry_type_call ?_⟩
  rw [Around.under_plain (weight_type_call_type "set" [.ref l] []) rfl]
  have n1 := F.called_set.notType
  have n2 := F.called_set.canCreate
  have n3 := F.typeCall_set_1 (.ref l)
  repeat any_goals first | assumption | wp_step
  generalize hN : s.heap.push (emptySet w) = hN1
  have oS : hN1.get? s.heap.objs.size = some (emptySet w) := by rw [← hN]; exact Heap.get?_push_size _ rfl
  have old : ∀ b o, s.heap.get? b = some o → hN1.get? b = some o := fun b o e => by rw [← hN]; exact Heap.get?_push_of_some _ e
  have zN : hN1.objs.size = s.heap.objs.size + 1 := by rw [← hN]; exact Heap.size_push ..
  refine codeAny_mono (code_set_led1 (.ref l) (E := E) (Q₁ := fun obj s1 => obj = .ref s.heap.objs.size ∧ s1 = { s with heap := hN1 }) ⟨rfl, by rw [← hN]⟩) fun r s1 hr => ?_
  cases r with
  | error e => exact hr
  | ok fl =>
    cases fl with
    | ret obj =>
      obtain ⟨rfl, rfl⟩ := hr
      have tS : Shared.TypeIs { s with heap := hN1 } (.ref s.heap.objs.size) "set" := ⟨_, oS, rfl⟩
      have i1 := F.called_set.init.lookup
      have i2 := F.called_set.init.bind (.ref s.heap.objs.size)
      repeat any_goals first | assumption | wp_step
      refine codeAny_mono (codeAny_call_builtin (R := wants (fun r s2 => r = .none ∧ ∃ h' tk L es ep t, s2 = { s with heap := h', toks := tk } ∧ SetT knd h' s.heap.objs.size L es ep t ∧ Has ks ks.length L ∧ (∀ b o, s.heap.get? b = some o → h'.get? b = some o)) E)
        F.called_set.init.plain F.entry_set_init (check_set_init_1 tS ?_)) fun r2 s2 hr2 => ?_
      · obtain ⟨ol, hol, hcl, nl, hdl⟩ := hl
        obtain ⟨ocls, odict, odata, oslots⟩ := ol
        dsimp only at hcl hdl
        subst hcl hdl
        have ol1 := old _ _ hol
        have x1 := F.sub_list_set
        have x2 := F.sub_list_frozenset
        have x3 : (Value.type "list" == Value.type "dict") = false := by decide
        have l1 : hN1.IsList l items := ⟨_, ol1, rfl, nl, rfl⟩
        unfold Builtin.«set.__init__» noKeywords Builtin.Frozenset.updateFrom
        generalize hPI : pyIter = PI
        wp_walk
        subst hPI
        refine wpAny_pyIter_list l1 (wpAny_bind (wpAny_runValue ?_))
        have lS : l < s.heap.objs.size := Heap.lt_size hol
        have none_of : ∀ b, s.heap.objs.size ≤ b → s.heap.get? b = none := fun b hb => by
          cases q : s.heap.get? b with
          | none => rfl
          | some o => exact absurd (Heap.lt_size q) (Nat.not_lt.mpr hb)
        have ne1 : l ≠ hN1.objs.size := by rw [zN]; exact Nat.ne_of_lt (Nat.lt_succ_of_lt lS)
        have ne2 : s.heap.objs.size ∉ [hN1.objs.size, l] := by
          rw [zN]
          simp only [List.mem_cons, List.not_mem_nil, or_false, not_or]
          exact ⟨Nat.ne_of_lt (Nat.lt_succ_self _), Nat.ne_of_gt lS⟩
        have z0 : Has ks 0 [] := ⟨fun p hp => (nomatch hp), fun p hp => (by simp at hp), Nat.le_refl _⟩
        refine fill (ks := ks) (h0 := s.heap) Z ((Walks.list (by simp [hh]) _ l ne1 items).toS) (S := s.heap.objs.size)
          ne2 sz hfew (fun i v hv => ?_) hk (none_of _ (Nat.le_refl _)) (fun b hb => none_of b (by rw [List.mem_singleton.mp hb, zN]; exact Nat.le_succ _)) hu items.size 0 _ (Nat.zero_add _)
          ⟨⟨_, Heap.get?_push_size _ rfl, rfl, rfl⟩, l1.push _⟩ (fun b o e => Heap.get?_push_of_some _ (old b o e)) ⟨[], #[], 0, _, setT_new (Heap.get?_push_of_some _ oS), z0⟩ fun s' L es ep t hm S2 g kp => ?_
        · have q : items.toList[i]? = some v := Array.getElem?_toList.trans hv
          rw [hit, List.getElem?_map] at q
          cases hq : ks[i]? with
          | none => rw [hq] at q; cases q
          | some p => rw [hq] at q; exact ⟨p, rfl, (Option.some.inj q).symm⟩
        · obtain ⟨h', g2, d', tk', os'⟩ := s'
          obtain rfl : g2 = s.gens := hm.gens
          obtain rfl : d' = s.drawn := hm.drawn
          obtain rfl : os' = s.os := hm.os
          rw [sz] at g
          exact wpAny_pure (wpAny_pure ⟨rfl, h', tk', L, es, ep, t, rfl, S2, g, kp⟩)
      · cases r2 with
        | error e => exact hr2
        | ok fl2 =>
          cases fl2 with
          | ret r =>
            obtain ⟨rfl, h', tk, L, es, ep, t, rfl, S2, g, kp⟩ := hr2
            repeat any_goals first | assumption | wp_step
            exact h _ _ _ _ _ _ S2 g kp
          | _ => exact hr2.elim
    | _ => exact hr.elim
end
end LS
/-! LSet4: sorted(set(..)) over data. -/
namespace LS
open PySem PySem.Spec PyProof.Rows L2 DL LP
/-- a kind of items: as keys, as values, as data -/
structure Kd (P : Program) (w : World) (κ : Type) [DecidableEq κ] where
  knd : KeyKind P w κ
  quiet : Quiet knd
  enc : κ → V
  dat : κ → PyData
  of : ∀ x u, RelV (enc x) u → knd.is x u = true
  rd : ∀ x u h, knd.is x u = true → Reads h u (dat x) []
  dp : ∀ {K : PySem.W.Frag} {G : Hp} {v : V} x, Dp K G v (dat x) → v = enc x
  pd : ∀ {K : PySem.W.Frag} {G : Hp} x, Dp K G (enc x) (dat x)
def kdS (P : Program) (w : World) : Kd P w Str where
  knd := strKind P w
  quiet := quiet_str
  enc := V.str
  dat := PyData.str
  of := fun x u r => by obtain ⟨t, rfl⟩ := r; show Value.isStrOf x (.str x t) = true; simp [Value.isStrOf]
  rd := fun x u h r => by obtain ⟨t, rfl⟩ := Value.isStrOf_shape r; exact .str x t
  dp := fun x h => dp_str h
  pd := fun x => .str x
def kdI (P : Program) (w : World) : Kd P w Int where
  knd := intKind P w
  quiet := quiet_int
  enc := V.int
  dat := PyData.int
  of := fun x u r => by obtain ⟨t, rfl⟩ := r; exact intKind_is P w x t
  rd := fun x u h r => by obtain ⟨t, rfl⟩ := Value.isInt_shape r; exact .int x t
  dp := fun x h => dp_int h
  pd := fun x => .int x
section
variable {P : Program} {w : World} {κ : Type} [DecidableEq κ] (k : Kd P w κ)
theorem items_vals : ∀ {xs : List κ} {us : List Value}, Vals (xs.map k.enc) us → ItemsAre k.knd xs us
  | [], _, .nil => .nil
  | _ :: _, _, .cons r t => .cons (k.of _ _ r) (items_vals t)
theorem items_reads {h : Heap} : ∀ {xs : List κ} {us : List Value}, ItemsAre k.knd xs us → ReadsAll h us (xs.map k.dat) []
  | _, _, .nil => .nil
  | _, _, .cons r t => ReadsAll.cons (as := []) (bs := []) (k.rd _ _ h r) (items_reads t)
theorem key_reads {h : Heap} {xs : List κ} {a : Addr} (x : IsTupleKey k.knd h xs a) : Reads h (.ref a) (.tuple (xs.map k.dat)) [] := by
  obtain ⟨o, its, n, ho, hc, hd, hi⟩ := x
  exact .tuple ho hc hd (items_reads k hi)
theorem refs_eq : ∀ {ks : List (Addr × List κ)} {us : List Value}, Vals (ks.map fun p => V.ref p.1) us → us = ks.map fun p => Value.ref p.1
  | [], _, .nil => rfl
  | _ :: _, _, .cons r t => by cases r; rw [refs_eq t]; rfl
theorem refs_vals : ∀ (ks : List (Addr × List κ)), Vals (ks.map fun p => V.ref p.1) (ks.map fun p => Value.ref p.1)
  | [] => .nil
  | _ :: ks => .cons rfl (refs_vals ks)
/-- the set at a, all but the tuples themselves -/
def SetP (w : World) (k : Kd P w κ) (a : Addr) (L : List (Addr × List κ)) (h : Heap) : Prop := ∃ (es : Array (Int × Value)) (ep : Nat) (t : SetTable), (∃ o, h.get? a = some o ∧ o.ExactSet ∧ o.data = .set es ep t) ∧ es.toList = rws k.knd L ∧
  Tab t (L.map fun p => hsh k.knd p.2) ∧ (L.map (·.2)).Nodup ∧ (w.params.followText "set-order" = true ∨ t.led = true) ∧ L.length * 5 < t.mask * 3 ∧ L.length < 1000
def SetO (k : Kd P w κ) (a : Addr) (L : List (Addr × List κ)) : HO := .ext (SetP w k a L)
theorem setO_ok {H : Hp} {h : Heap} {a : Addr} {L : List (Addr × List κ)} {es : Array (Int × Value)} {ep : Nat} {t : SetTable} (R : SetT k.knd h a L es ep t) : ObjOk P w H h a (SetO k a L) := by
  have ob := R.ob
  refine ⟨⟨es, ep, t, R.ob, R.rows, R.tab, R.nd, R.led, R.room, R.few⟩, ?_, fun h1 h2 p kp => ?_⟩
  · obtain ⟨o, ho, _⟩ := ob
    exact ⟨o, ho⟩
  · obtain ⟨es, ep, t, ⟨o, ho, r⟩, q⟩ := p
    exact ⟨es, ep, t, ⟨o, kp o ho, r⟩, q⟩
end
section
variable {X : Cx} {κ : Type} [DecidableEq κ] (k : Kd X.prog X.w κ)
theorem key_of {pins : List (Addr × Obj)} {σ : L2.St} {H : Hp} {s : Shared} {b : Addr} {xs : List κ} (I : Inv X pins σ H s) (h : SqT X.K H b (xs.map k.enc)) : IsTupleKey k.knd s.heap xs b := by
  obtain ⟨its, r, ⟨o, ho, hc, n, hd⟩, _⟩ := I.tuple h
  exact ⟨o, its.toArray, n, ho, hc, hd, by simpa using items_vals k r⟩
def rMake : List V → Hp → VK → Prop := fun xs H Q => ∃ (l : Addr) (ks : List (Addr × List κ)), xs = [V.ref l] ∧ SqL X.K H l (ks.map fun p => V.ref p.1) ∧ (∀ p ∈ ks, SqT X.K H p.1 (p.2.map k.enc)) ∧ ks.length < 1000 ∧
  ∀ a L, H a = none → (∀ p ∈ L, p ∈ ks) → (∀ p ∈ ks, p.2 ∈ L.map (·.2)) → (L.map (·.2)).Nodup → L.length ≤ 1000 → Q (.ref a) (upd H a (SetO k a L))
theorem cr_make (hc : X.calm = true) (hu : X.A.units + 64 < cLine) : CallR X (.type "set") (rMake k) := by
  intro pins s σ H xs us Q I r h
  obtain ⟨l, ks, rfl, hl, hk, hf, q⟩ := h
  rw [Vals.ref1 r]
  obtain ⟨its, rv, pl, hz⟩ := I.list hl
  have hn : H s.heap.objs.size = none := I.hok.fresh (Nat.le_refl _)
  refine call_set (knd := k.knd) (ks := ks) k.quiet (I.ok.hd hc) pl.isList (by simpa using refs_eq rv) (fun p hp => key_of k I (hk p hp)) hf (by omega) fun h' tk L es ep t R g kp => ?_
  refine ⟨.ref s.heap.objs.size, upd H s.heap.objs.size (SetO k s.heap.objs.size L), I.laid (t' := tk) kp (Nat.le_refl _) (setO_ok k R), rfl, q _ L hn (fun p hp => List.mem_of_mem_take (g.sub p hp)) (fun p hp => g.all p (by rw [List.take_length]; exact hp)) R.nd (Nat.le_of_lt R.few)⟩
abbrev dk (p : Addr × List κ) : PyData := .tuple (p.2.map k.dat)
def rTell : List V → Hp → VK → Prop := fun vs H Q => ∃ (a : Addr) (L : List (Addr × List κ)), vs = [V.ref a] ∧ H a = some (SetO k a L) ∧ (∀ p ∈ L, SqT X.K H p.1 (p.2.map k.enc)) ∧ PySem.W.AllAlike (L.map (dk k)) ∧ (∀ p ∈ L, p.2 ≠ []) ∧ (∀ p ∈ L, (dk k p).depth ≤ 50) ∧
  ∀ (L' : List (Addr × List κ)) (p : Addr), L'.Perm L → L'.map (dk k) = DL.dsort (L'.map (dk k)) → H p = none → Q (.ref p) (upd H p (.lst (L'.map fun q => V.ref q.1)))
theorem each_refs : ∀ (L : List (Addr × List κ)), PySem.W.EachIs (fun (v : Value) (p : Addr × List κ) => v = .ref p.1) (L.map fun p => Value.ref p.1) L
  | [] => .nil
  | _ :: L => .cons rfl (each_refs L)
theorem refs_each : ∀ {vs : List Value} {L : List (Addr × List κ)}, PySem.W.EachIs (fun (v : Value) (p : Addr × List κ) => v = .ref p.1) vs L → vs = L.map fun p => Value.ref p.1
  | _, _, .nil => rfl
  | _, _, .cons e t => by rw [List.map_cons, ← e, ← refs_each t]
end
/-- values that are L's, in another order -/
theorem perm_map {α β : Type} (f : α → β) {L : List α} {vs : List β} (pm : vs.Perm (L.map f)) : ∃ L1 : List α, vs = L1.map f ∧ L1.Perm L := by
  generalize hz : L.map f = zs at pm
  induction pm generalizing L with
  | nil => exact ⟨[], rfl, by rw [List.map_eq_nil_iff.mp hz]⟩
  | cons x _ ih =>
    cases L with
    | nil => cases hz
    | cons p L =>
      rw [List.map_cons] at hz
      injection hz with h1 h2
      obtain ⟨L1, e, q⟩ := ih h2
      exact ⟨p :: L1, by rw [List.map_cons, ← e, h1], q.cons p⟩
  | swap x y l =>
    cases L with
    | nil => cases hz
    | cons p L => cases L with
      | nil => cases hz
      | cons q L =>
        rw [List.map_cons, List.map_cons] at hz
        injection hz with h1 h2
        injection h2 with h2 h3
        exact ⟨q :: p :: L, by rw [List.map_cons, List.map_cons, h1, h2, h3], List.Perm.swap p q L⟩
  | trans _ _ ih1 ih2 =>
    obtain ⟨L1, e1, q1⟩ := ih2 hz
    obtain ⟨L2, e2, q2⟩ := ih1 e1.symm
    exact ⟨L2, e2, q2.trans q1⟩
section
variable {X : Cx} {κ : Type} [DecidableEq κ] (k : Kd X.prog X.w κ)
theorem cr_tell (hc : X.calm = true) (hu : X.A.units + 64 < cLine) : CallR X (.builtin "sorted") (rTell k) := by
  intro pins s σ H vs us Q I r h
  obtain ⟨a, L, rfl, ha, hk, hal, hne, hdep, q⟩ := h
  obtain ⟨⟨es, ep, t, ⟨o, ho, hex, hd⟩, rows, T, nd, led, room, few⟩, _⟩ := I.hok a _ ha
  rw [Vals.ref1 r]
  have sz := rws_size rows
  refine Calls.call_function_entry kind_sorted plain_sorted entry_sorted (args_sorted1 _) ?_
  unfold Builtin.«sorted»
  refine wpAny_bind (m := checkCount "sorted" 1 1 _) (wpAny_pure ?_)
  refine wpAny_bind (collect_set (A := X.A.in1) (I.ok.hd hc) ⟨o, ho, hex.1, hd⟩ (fits_of T sz (by omega)) (by unfold scanBound; omega) T.ris led fun s1 vs1 k1 hz g1 o1 pm => ?_)
  rw [rows, rws, List.map_map] at pm
  obtain ⟨L1, rfl, p1⟩ := perm_map (fun p : Addr × List κ => Value.ref p.1) pm
  refine wpAny_bind (wpAny_newList ?_ (by rw [List.length_map, p1.length_eq, sizeLine_eq]; omega))
  have hoL : (s1.heap.push (seqObj "list" (L1.map fun p => Value.ref p.1).toArray 0)).get? s1.heap.objs.size = some (seqObj "list" (L1.map fun p => Value.ref p.1).toArray 0) := Heap.get?_push_size _ rfl
  have hp1 : ∀ p ∈ L1, p ∈ L := fun p hp => p1.mem_iff.mp hp
  have er : PySem.W.EachIs (fun (v : Value) (b : Addr × List κ) => ∃ as, Reads (s1.heap.push (seqObj "list" (L1.map fun p => Value.ref p.1).toArray 0)) v (dk k b) as ∧ s1.heap.objs.size ∉ as) (L1.map fun p => Value.ref p.1) L1 := by
    have key : ∀ M : List (Addr × List κ), (∀ p ∈ M, p ∈ L) → PySem.W.EachIs (fun (v : Value) (b : Addr × List κ) => ∃ as, Reads (s1.heap.push (seqObj "list" (L1.map fun p => Value.ref p.1).toArray 0)) v (dk k b) as ∧ s1.heap.objs.size ∉ as) (M.map fun p => Value.ref p.1) M := fun M => by
      induction M with
      | nil => exact fun _ => .nil
      | cons p M ih =>
        exact fun hm => .cons ⟨[], key_reads k (key_keep (key_of k I (hk p (hm p List.mem_cons_self))) fun b u e => Heap.get?_push_of_some _ (k1 b u e)), fun z => nomatch z⟩ (ih fun p hp => hm p (List.mem_cons_of_mem _ hp))
    exact key L1 hp1
  have hal1 : PySem.W.AllAlike (L1.map (dk k)) := fun d hd d' hd' => hal d ((p1.map (dk k)).mem_iff.mp hd) d' ((p1.map (dk k)).mem_iff.mp hd')
  have srt : PySem.W.Sortable (L1.map (dk k)) := .inl fun d hd => by
    obtain ⟨p, hp, rfl⟩ := List.mem_map.mp hd
    have := hne p (hp1 p hp)
    cases hq : p.2 with
    | nil => exact absurd hq this
    | cons x r => exact ⟨k.dat x, r.map k.dat, by rw [dk, hq]; rfl⟩
  refine wpAny_bind (wpAny_holding (PySem.W.list_sort_data (s := { s1 with heap := s1.heap.push (seqObj "list" (L1.map fun p => Value.ref p.1).toArray 0) }) (enc := dk k) (R := fun (v : Value) (p : Addr × List κ) => v = .ref p.1) hoL (each_refs L1) er hal1 srt (by rw [p1.length_eq, sizeLine_eq]; omega) (fun b hb => ?_) fun out ho1 ho2 => ?_))
  · have := hdep b (hp1 b hb)
    show X.A.units + 1 + 1 + (dk k b).depth < cLine
    omega
  · obtain ⟨c, hc2⟩ := sortedHeap_at (vs := L1.map fun p => Value.ref p.1) (out := out.toArray) hoL
    have eo := refs_each ho2
    generalize hL2 : L1.mergeSort (PySem.W.dataLe false (dk k)) = L2 at ho2 eo
    have p2 : L2.Perm L1 := hL2 ▸ List.mergeSort_perm _ _
    have hs : L2.map (dk k) = DL.dsort (L2.map (dk k)) := by
      have h1 := PySem.W.sort_maps (dk k) (r := PySem.W.dataLe false (dk k)) (s := PySem.W.dataLe false id) (l := L1) (fun _ _ _ _ => rfl)
      rw [hL2] at h1
      have pw := PySem.W.sort_pairwise (PySem.W.sortLe_total (PyProof.Rows.listOrd itemOrd) false fun b : PyData => PySem.W.keyToks b) (L1.map (dk k))
      rw [h1]
      unfold DL.dsort
      exact (List.mergeSort_of_pairwise pw).symm
    have hn : H s1.heap.objs.size = none := I.hok.fresh hz
    have hlen : (L2.map fun q => V.ref q.1).length ≤ sizeLine := by rw [List.length_map, p2.length_eq, p1.length_eq, sizeLine_eq]; omega
    have kp : ∀ b u, s.heap.get? b = some u → (sortedHeap (s1.heap.push (seqObj "list" (L1.map fun p => Value.ref p.1).toArray 0)) s1.heap.objs.size (L1.map fun p => Value.ref p.1) out.toArray).get? b = some u := fun b u e => by
      have q1 := k1 b u e
      have hlt := Heap.lt_size q1
      rw [sortedHeap_old (Nat.ne_of_lt hlt) (by rw [size_push']; exact Nat.lt_succ_of_lt hlt)]
      exact Heap.get?_push_of_some _ q1
    refine wpAny_pure ⟨_, rfl, ?_⟩
    generalize sortedHeap (s1.heap.push (seqObj "list" (L1.map fun p => Value.ref p.1).toArray 0)) s1.heap.objs.size (L1.map fun p => Value.ref p.1) out.toArray = hF at hc2 kp ⊢
    have J : Inv X pins σ (upd H s1.heap.objs.size (.lst (L2.map fun q => V.ref q.1))) { s with heap := hF, gens := s1.gens, drawn := s1.drawn, toks := s1.toks } :=
      I.call (ch := []) (Un.laid kp hz hn) (I.hok.laid kp hz ⟨hlen, out, c, by rw [eo]; exact refs_vals L2, hc2⟩) (by rw [g1]; exact I.bare) (fun _ z => nomatch z)
    have e9 : ({ s1 with heap := hF } : Shared) = { s with heap := hF, gens := s1.gens, drawn := s1.drawn, toks := s1.toks } := by
      cases s1
      cases s
      cases o1
      rfl
    exact ⟨.ref s1.heap.objs.size, _, e9 ▸ J, rfl, q L2 _ (p2.trans p1) hs hn⟩
end
end LS
/-! LSet5: sorted(set(..)) as an expression over data. -/
namespace LS
open PySem PySem.Spec PyProof.Rows L2 DL LP
section
variable {α : Type} [DecidableEq α] [PySem.W.DatumOrd α]
theorem toD_inj {a b : α} (h : toD a = toD b) : a = b := by
  have e := PySem.W.Datum.eqv a b
  rw [← show PySem.W.Datum.toD a = PySem.W.Datum.toD b from h, PySem.W.Datum.eqv a a] at e
  exact of_decide_eq_true (e.symm.trans (decide_eq_true rfl))
theorem map_toD_inj : ∀ {xs ys : List α}, xs.map toD = ys.map toD → xs = ys
  | [], [], _ => rfl
  | [], _ :: _, h => by cases h
  | _ :: _, [], h => by cases h
  | x :: xs, y :: ys, h => by
    rw [List.map_cons, List.map_cons] at h
    injection h with h1 h2
    rw [toD_inj h1, map_toD_inj h2]
end
section
variable {X : Cx} {H0 : Bs} {ρ : DL.Env} {κ : Type} [DecidableEq κ] [PySem.W.DatumOrd κ] {e : Expr} {p1 p2 p3 p4 : Pos} {j : Nat}
theorem keys_of {K : PySem.W.Frag} {G : Hp} (k : Kd X.prog X.w κ) (hk : ∀ x, k.dat x = toD x) : ∀ {xs : List (PySem.W.Tup κ)} {vs : List V}, DpAll K G vs (xs.map toD) → ∃ ks : List (Addr × List κ), vs = ks.map (fun p => V.ref p.1) ∧ ks.map (fun p => (⟨p.2⟩ : PySem.W.Tup κ)) = xs ∧ ∀ p ∈ ks, SqT K G p.1 (p.2.map k.enc)
  | [], _, h => ⟨[], by cases h; rfl, rfl, fun p hp => nomatch hp⟩
  | x :: xs, _, h => by
    obtain ⟨v, r, rfl, h1, h2⟩ := h.inv_cons
    obtain ⟨ks, rfl, e2, q⟩ := keys_of k hk h2
    obtain ⟨a, ws, rfl, g1, g2⟩ := dp_tup (show Dp K G v (.tuple (x.items.map toD)) from h1)
    have hw : ∀ {ys : List κ} {ws : List V}, DpAll K G ws (ys.map toD) → ws = ys.map k.enc := fun {ys} => by
      induction ys with
      | nil => intro ws h; cases h; rfl
      | cons y ys ih =>
        intro ws h
        obtain ⟨v, r, rfl, h1, h2⟩ := h.inv_cons
        have h3 := k.dp y (show Dp K G v (k.dat y) by rw [hk]; exact h1)
        rw [List.map_cons, ← ih h2, h3]
    rw [hw g2] at g1
    refine ⟨(a, x.items) :: ks, rfl, by rw [List.map_cons, e2], fun p hp => ?_⟩
    rcases List.mem_cons.mp hp with rfl | hp
    · exact g1
    · exact q p hp
theorem sortedSet (k : Kd X.prog X.w κ) {xs ys : List (PySem.W.Tup κ)} (bt : Bt X.mg) (hc : X.calm = true) (hr : Room j X.A) (hz : xs.length < 1000) (hne : ∀ x ∈ xs, x.items ≠ []) (hup : ys.Pairwise fun a b => tlt a b = true) (hm : ∀ a, a ∈ ys ↔ a ∈ xs) (ha : DR X H0 ρ e (xs.map toD))
    (hdp : PySem.W.Datum.depth (PySem.W.Tup κ) ≤ 50 := by decide) (hk : ∀ x, k.dat x = toD x := by intro _; rfl) (hg : Gl X "sorted" := by rfl) (hg2 : Gl X "set" := by rfl) (he : starEach (e :: []) X.env = (false, eval e X.env) :: starEach [] X.env := by rfl) (hpl : (backTo p3 (starEach [] X.env)).any (·.1) = false := by rfl)
    (he2 : starEach ((.Call (.Name "set" p2) [e] [] p3) :: []) X.env = (false, eval (.Call (.Name "set" p2) [e] [] p3) X.env) :: starEach [] X.env := by rfl) (hpl2 : (backTo p4 (starEach [] X.env)).any (·.1) = false := by rfl) :
    DL X H0 ρ (.Call (.Name "sorted" p1) [.Call (.Name "set" p2) [e] [] p3] [] p4) (ys.map toD) := by
  have dat : ∀ l : List κ, PyData.tuple (l.map k.dat) = toD (⟨l⟩ : PySem.W.Tup κ) := fun l => by
    show PyData.tuple (l.map k.dat) = PyData.tuple (l.map toD)
    rw [List.map_congr_left fun x _ => hk x]
  refine (pe_callB (cr_tell k hc hr.units) hg (bt.at _) (by decide +kernel) (pa_one (pe_callTy (cr_make k hc hr.units) hg2 (bt.at _) (by decide +kernel) (pa_one ha he) (by decide) (by decide) he hpl) he2) (by decide) (by decide) he2 hpl2).imp fun σ H Q ⟨G, x, sl, q⟩ => ⟨G, x, sl, fun p vs G1 H1 y h rs => ?_⟩
  obtain ⟨ks, rfl, ek, hs⟩ := keys_of k hk rs
  have hkl : ks.length = xs.length := by rw [← ek, List.length_map]
  refine ⟨p, ks, rfl, h, fun p hp => y.gh.seqT (hs p hp), by omega, fun a L hn l1 l2 nd lz => ?_⟩
  have mem : ∀ z : PySem.W.Tup κ, z ∈ L.map (fun p => (⟨p.2⟩ : PySem.W.Tup κ)) ↔ z ∈ xs := fun z => by
    constructor
    · intro hz
      obtain ⟨p, hp, rfl⟩ := List.mem_map.mp hz
      rw [← ek]
      exact List.mem_map.mpr ⟨p, l1 p hp, rfl⟩
    · intro hz
      rw [← ek] at hz
      obtain ⟨p, hp, rfl⟩ := List.mem_map.mp hz
      obtain ⟨p2, hp2, e2⟩ := List.mem_map.mp (l2 p hp)
      exact List.mem_map.mpr ⟨p2, hp2, by rw [e2]⟩
  have x2 : Ext G1 H1 G1 (upd H1 a (SetO k a L)) := Ext.heap y.gh (Ex.new hn)
  refine ⟨a, L, rfl, upd_same, fun p hp => x2.gh.seqT (hs p (l1 p hp)), ?_, fun p hp => ?_, fun p hp => ?_, fun L' l pm hsrt hl => ?_⟩
  · intro d hd d' hd'
    obtain ⟨p, _, rfl⟩ := List.mem_map.mp hd
    obtain ⟨p', _, rfl⟩ := List.mem_map.mp hd'
    show PySem.W.alike (PyData.tuple _) (PyData.tuple _) = true
    rw [dat, dat]
    exact PySem.W.DatumOrd.alike _ _
  · exact hne ⟨p.2⟩ ((mem _).mp (List.mem_map.mpr ⟨p, hp, rfl⟩))
  · show (PyData.tuple _).depth ≤ 50
    rw [dat]
    exact Nat.le_trans (PySem.W.Datum.depth_le _) hdp
  · have ez : L'.map (dk k) = (L'.map fun p => (⟨p.2⟩ : PySem.W.Tup κ)).map toD := by
      rw [List.map_map]
      exact List.map_congr_left fun p _ => dat p.2
    have nd2 : (L'.map fun p => (⟨p.2⟩ : PySem.W.Tup κ)).Nodup := by
      have h1 := (pm.map (·.2)).nodup_iff.mpr nd
      have h2 : (L'.map (·.2)).map (fun l => (⟨l⟩ : PySem.W.Tup κ)) = L'.map fun p => (⟨p.2⟩ : PySem.W.Tup κ) := by rw [List.map_map]; rfl
      rw [← h2]
      exact List.Pairwise.map _ (fun a b q e => q (PySem.W.Tup.mk.inj e)) h1
    rw [ez, dsort_ty] at hsrt
    have hsrt := map_toD_inj hsrt
    have st := tsort_strict nd2
    rw [← hsrt] at st
    have fin : (L'.map fun p => (⟨p.2⟩ : PySem.W.Tup κ)) = ys := pw_ext st hup fun z => by
      rw [hm z, ← mem z]
      exact (pm.map _).mem_iff
    refine q l _ G1 _ ((y.trans x2).trans (Ext.heap x2.gh (Ex.new hl))) (y.h.back (x2.h.back hl)) (x2.gh.back hl) upd_same ?_
    rw [← fin, ← ez]
    have all : ∀ M : List (Addr × List κ), (∀ p ∈ M, SqT X.K G1 p.1 (p.2.map k.enc)) → DpAll X.K G1 (M.map fun p => V.ref p.1) (M.map (dk k)) := fun M => by
      induction M with
      | nil => exact fun _ => .nil
      | cons p M ih =>
        refine fun hM => .cons (.tup (hM p List.mem_cons_self) ?_) (ih fun p hp => hM p (List.mem_cons_of_mem _ hp))
        generalize p.2 = l
        induction l with
        | nil => exact .nil
        | cons x r ih2 => exact .cons (k.pd x) ih2
    exact all L' fun p hp => hs p (l1 p (pm.mem_iff.mp hp))
end
end LS
/-! DL20: lists repeated; truths told by isNone; more short rules. -/
namespace DL
open PySem PySem.Spec PyProof.Rows L2
section
variable {X : Cx} {H0 : Bs} {ρ : Env} {a b c e : Expr} {ds xs : List D} {k : Int} {i j : Int} {pos p1 p2 : Pos} {n : Nat}
/-- [..] * k -/
theorem dl_rep (ha : DM X H0 ρ a ds) (hb : DE X H0 ρ b (.int k)) (hk : 0 ≤ k ∧ k ≤ 1000) (hz : ds.length ≤ 100) : DL X H0 ρ (.BinOp a .Mult b pos) (List.replicate k.toNat ds).flatten :=
  (pe_op op_rep ha hb).imp fun σ H Q ⟨G, x, sl, q⟩ => ⟨G, x, sl, fun p vs G1 H1 y1 hp r1 => ⟨G1, y1.gh, sl.up y1, fun u G2 H2 y2 r2 => by
    have hu := dp_int r2
    subst hu
    have all : ∀ n : Nat, DpAll X.K G2 (List.replicate n vs).flatten (List.replicate n ds).flatten := fun n => by
      induction n with
      | zero => exact .nil
      | succ n ih => rw [List.replicate_succ, List.replicate_succ, List.flatten_cons, List.flatten_cons]; exact (r1.up y2.g).app ih
    refine ⟨p, k, vs, rfl, rfl, y2.h _ _ hp, by omega, by omega, ?_, fun l hl => q l _ G2 _ ((y1.trans y2).trans (Ext.heap y2.gh (Ex.new hl))) ((y1.trans y2).h.back hl) (y2.gh.back hl) upd_same (all _)⟩
    rw [r1.length]
    have h1 : k.toNat ≤ 1000 := by omega
    exact Nat.le_trans (Nat.mul_le_mul hz h1) (by decide)⟩⟩
theorem ltI (ha : DE X H0 ρ a (.int i)) (hb : DE X H0 ρ b (.int j)) (hm : behindInMarks .Lt b = false := by first | exact nomark _ | rfl) : DT X H0 ρ (.Compare a [.Lt] [b] pos) (decide (i < j)) := dt_cmp op_lt od_lt ha hb hm
theorem ltIe (ha : DE X H0 ρ a (.int i)) (hb : DE X H0 ρ b (.int j)) (hm : behindInMarks .Lt b = false := by first | exact nomark _ | rfl) : DE X H0 ρ (.Compare a [.Lt] [b] pos) (.bool (decide (i < j))) := de_cmp op_lt od_lt ha hb hm
theorem geI (ha : DE X H0 ρ a (.int i)) (hb : DE X H0 ρ b (.int j)) (hm : behindInMarks .GtE b = false := by first | exact nomark _ | rfl) : DT X H0 ρ (.Compare a [.GtE] [b] pos) (decide (j ≤ i)) := dt_cmp op_ge od_ge ha hb hm
theorem isNt {d : D} (ha : DE X H0 ρ a d) (hm : behindInMarks .Is (.Constant .none n p1) = false := by first | exact nomark _ | rfl) : DT X H0 ρ (.Compare a [.Is] [.Constant .none n p1] pos) (isNone d) := dt_cmp op_isN od_isN ha de_non hm
theorem notNt {d : D} (ha : DE X H0 ρ a d) (hm : behindInMarks .IsNot (.Constant .none n p1) = false := by first | exact nomark _ | rfl) : DT X H0 ρ (.Compare a [.IsNot] [.Constant .none n p1] pos) (!isNone d) := dt_cmp op_notN od_notN ha de_non hm
end
end DL
namespace DL
open PySem PySem.Spec PyProof.Rows L2
section
variable {X : Cx} {F : Fr0} {E : Fam} {H0 : Bs} {ρ : Env} {i j : Nat} {a b c e : Expr} {S : D → Prop} {ds xs : List D} {da db : D} {pos pos' p1 : Pos} {x y : Str} {rest b1 : List Stmt} {N : DEnd} {m : Int} {ns : List Int}
/-- x, y = a changing thing, a new list -/
theorem dsx_parXL (ha : DX X F E a S) (hb : ∀ x k, DL X F.H0 (E x k) b ds) (hr : ∀ d, S d → DSX X F (fun x k => ((E x k).set i (.dat d)).set j (.own ds)) rest N) (hc : X.calm = true) (hN : X.N.Nodup) {px py pt : Pos} {kt k2 pt2} (hi : X.N[i]? = some x := by rfl) (hj : X.N[j]? = some y := by rfl)
    (hx : Loc X.env.scope x := by first | exact .inl rfl | exact .inr rfl) (hy : Loc X.env.scope y := by first | exact .inl rfl | exact .inr rfl) (hfx : X.fn x = true ∨ X.env.scope.names.lookup x = some .local := by first | exact .inl rfl | exact .inr rfl | assumption) (hfy : X.fn y = true ∨ X.env.scope.names.lookup y = some .local := by first | exact .inl rfl | exact .inr rfl | assumption)
    (hw : swappedStores [.Tuple [.Name x px, .Name y py] kt pt] (.Tuple [a, b] k2 pt2) X.env = pure none := by rfl) (hs : swapsWithSole [.Tuple [.Name x px, .Name y py] kt pt] (.Tuple [a, b] k2 pt2) pos.line X.env = pure false := by rfl)
    (h1 : (assignEach [.Tuple [.Name x px, .Name y py] kt pt] X.env).map (·.2) = [assign (.Tuple [.Name x px, .Name y py] kt pt) X.env] := by rfl)
    (hs1 : starEach (a :: [b]) X.env = (false, eval a X.env) :: starEach [b] X.env := by rfl) (hs2 : starEach (b :: []) X.env = (false, eval b X.env) :: starEach [] X.env := by rfl)
    (ht1 : (assignEach [.Name x px, .Name y py] X.env).map (·.2) = assign (.Name x px) X.env :: (assignEach [.Name y py] X.env).map (·.2) := by rfl) (ht2 : (assignEach [.Name y py] X.env).map (·.2) = assign (.Name y py) X.env :: (assignEach [] X.env).map (·.2) := by rfl)
    (hn : (assignEach [.Name x px, .Name y py] X.env).length = 2 := by rfl) (hst : (assignEach [.Name x px, .Name y py] X.env).findIdx? (·.1) = none := by rfl) :
    DSX X F E (.Assign [.Tuple [.Name x px, .Name y py] kt pt] (.Tuple [a, b] k2 pt2) pos :: rest) N := fun x0 k0 => by
  have hb' : PE X b (fun σ H Q => ∃ x k, tL X.K F.H0 (E x k) ds σ H Q) := ⟨fun pins s σ H Q I ⟨x, k, q⟩ => (hb x k).run pins s σ H Q I q⟩
  refine (pss_cons (ps_asg (pe_tup (pa_cons ha (pa_cons hb' pa_nil hs2) hs1)) (pg_tup hc (pgs_cons (pg_name hN hi hx hfx) (pgs_cons (pg_name hN hj hy hfy) pgs_nil ht2) ht1) hn hst) hs hw h1) PSs.any).imp fun D σ H ⟨G, ex, sl, aa⟩ => ⟨x0, k0, G, ex, sl, fun d x1 k1 v G1 H1 s1 e1 g1 sl1 r1 => ⟨x1, k1, G1, e1.gh, sl1, fun q vs G2 H2 z m m1 hq r2 => ⟨by show 2 ≤ sizeLine; decide, fun T hT => ?_⟩⟩⟩
  refine ⟨T, [v, .ref q], rfl, .inl (.inl upd_same), rfl, v, [.ref q], rfl, .ref q, [], rfl, rfl, _, hr d s1 x1 k1, ?_⟩
  have e2 := e1.trans z
  have s2 := ((sl1.up z).setD (i := i) (r1.up z.g)).setO (i := j) (p9 := none) (e1.h.back m) m1 hq r2 ((sl1.setD (i := i) r1).free m)
  have xT : Ext G2 H2 G2 (upd H2 T (.tup [v, .ref q])) := Ext.heap z.gh (Ex.new hT)
  exact tS_up (D := D) (e2.trans xT) (g1.trans z.g) (s2.up xT) aa
/-- a test that is never met -/
theorem dsx_never (ht : DXt X F E c (fun z => z = false)) (hr : DSX X F E rest N) : DSX X F E (.If c b1 [] pos :: rest) N := fun x k =>
  dsx_if (fun ρ => ∃ x k, ρ = E x k) ht (fun h => by cases h) (fun _ => fun x k => ds_nil ⟨x, k, rfl⟩) (fun ρ' ⟨x, k, h⟩ => h ▸ hr x k) x k
/-- if told != ("refused", ..): it is so -/
theorem dsx_told {n : Str} {k : Nat} (hr : Room k X.A) (ha : DX X F E a (fun d => d = refusedD n)) (hb : ∀ x k, DE X F.H0 (E x k) b (refusedD n)) (hrest : DSX X F E rest N) (hm : behindInMarks .NotEq b = false := by first | exact nomark _ | rfl) : DSX X F E (.If (.Compare a [.NotEq] [b] p1) b1 [] pos :: rest) N :=
  dsx_never (dxt_cmp (Sa := fun d => d = refusedD n) (Sb := fun d => d = refusedD n) (op_neP hr.units) ha (dx_of hb rfl) (fun da db h1 h2 => ⟨_, by
    subst h1; subst h2
    show (!PyData.eqv (refusedD n) (refusedD n)) = false
    rw [show PyData.eqv (refusedD n) (refusedD n) = true from by simp [refusedD, PyData.eqv, PyData.eqvAll]]; rfl, by
    subst h1; subst h2
    exact od_neP (by simp [refusedD, PyData.plain, PyData.plainAll]) (by simp [refusedD, PyData.plain, PyData.plainAll]) (.inl (by simp [refusedD, PyData.depth, PyData.depthAll]))⟩) hm) hrest
theorem cd_max (h1 : m ∈ ns) (h2 : ∀ y ∈ ns, y ≤ m) : CallDR X (rMax X.K) (ns.map .int) (.int m) := fun p vs G H Q e h rs q => ⟨p, ns, rfl, by rw [← dpAll_ints rs]; exact h, List.length_pos_of_mem h1, fun m' h3 h4 => by
  rw [show m' = m from Int.le_antisymm (h2 m' h3) (h4 m h1)]
  exact q _ G H (Ext.refl e) (.int _)⟩
theorem maxR (bt : Bt X.mg) (hc : X.calm = true) (h1 : m ∈ ns) (h2 : ∀ y ∈ ns, y ≤ m) (ha : DR X H0 ρ e (ns.map .int)) (hg : Gl X "max" := by rfl) (he : starEach (e :: []) X.env = (false, eval e X.env) :: starEach [] X.env := by rfl) (hpl : (backTo pos (starEach [] X.env)).any (·.1) = false := by rfl) : DE X H0 ρ (.Call (.Name "max" p1) [e] [] pos) (.int m) :=
  de_callBR (cr_max hc) (cd_max h1 h2) hg (bt.at _) (by decide +kernel) ha (by decide) (by decide) he hpl
theorem xi_rangeR {R : Nat → Prop} {tg : Expr} (bt : Bt X.mg) (he : DX X F E e S) (hS : ∀ d, S d → ∃ n : Nat, d = .int n ∧ R n ∧ n ≤ 100000) (hg : Gl X "range" := by rfl) (he1 : starEach (e :: []) X.env = (false, eval e X.env) :: starEach [] X.env := by rfl) (hs : starEach [e] X.env = [(false, eval e X.env)] := by rfl) :
    PI X tg (.Call (.Name "range" p1) [e] [] pos) (tXi X.K F E fun l => ∃ n : Nat, R n ∧ l = (List.range n).map fun i => .int (i : Nat)) :=
  (pi_range1 hg (bt.at _) (pa_one he he1) hs).imp fun σ H R ⟨x, k, G, ex, sl, q⟩ => ⟨x, k, G, ex, sl, fun d x1 k1 v G1 H1 s1 e1 g1 sl1 r1 => by
    obtain ⟨n, rfl, hn, hz⟩ := hS d s1
    have e2 : v = .int (n : Int) := dp_int r1
    subst e2
    exact ⟨(n : Int), rfl, by omega, by omega, q _ x1 k1 _ G1 H1 ⟨n, hn, rfl⟩ e1 g1 sl1 wd_range⟩⟩
end
end DL
/-! W12: the law's lots, sums, follows, least; what is promised of law. -/
namespace LP
open PySem PySem.Spec PyProof.Rows L2 DL L2H LamX LQ
theorem counts_ok {ps : List Str} {ns : List Int} (hl : ns.length = ps.length) (h : ∀ n ∈ ns, 0 ≤ n ∧ n ≤ 9) : isCountsD ps (intsD ns) = true := by
  show (decide (((ns.map PyData.int).length : Int) = ps.length) && (ns.map PyData.int).all fun d => isWholeD d 0 9) = true
  simp only [Bool.and_eq_true, decide_eq_true_eq, List.all_eq_true]
  refine ⟨by rw [List.length_map, hl], fun d hd => ?_⟩
  obtain ⟨n, hn, rfl⟩ := List.mem_map.mp hd
  simp only [isWholeD, Bool.and_eq_true, decide_eq_true_eq]
  exact h n hn
theorem cntOf_ints (b : List Int) : cntOf (intsD b) = b := by
  show (b.map PyData.int).map intOf = b
  rw [List.map_map]
  exact List.map_id b
theorem bool_eqv (p q : Bool) : PyData.eqv (.bool p) (.bool q) = decide (p = q) := by cases p <;> cases q <;> rfl
theorem Dsh.six' {n high : Nat} {s : Sh} (d : Dsh n high s) : s.1.length ≤ 6 := by rw [d.ps, List.length_take]; exact Nat.le_trans (Nat.min_le_right _ _) (by decide)
theorem Dsh.ten' {n high : Nat} {s : Sh} (d : Dsh n high s) : s.2.length ≤ high := by
  obtain ⟨rs', e, hl, _⟩ := d.rs
  injection e with e
  have := congrArg List.length e
  rw [List.length_map, List.length_map] at this
  omega
theorem optD_none (o : Option Nat) : DL.isNone (optD o) = o.isNone := by cases o <;> rfl
section
variable {P : Program} {w : World} {K : PySem.W.Frag} {mg : Str → Option Value} {base : Heap}
abbrev spLaw (K : PySem.W.Frag) (Tb : List (Addr × Str)) : Sp := spTab K Tb (α := List Int) (fun ns => [scriptD ns]) (fun ns => ns.length ≤ 1000) (fun _ d => d = .bool true)
abbrev spLotsL (K : PySem.W.Frag) (mg : Str → Option Value) : Sp := spD K mg (α := Sh × Int) (fun a => [shT a.1, .int a.2]) (fun a => Good a.1) (fun a => .ok (.list ((allLots a.1 a.2).map toD)))
abbrev spSumL (K : PySem.W.Frag) (mg : Str → Option Value) : Sp := spD K mg (α := Sh × List Int × List Str) (fun a => [shT a.1, intsD a.2.1, strsD a.2.2]) (fun a => a.1.1.length ≤ 100000) (fun a => .ok (.int (inLot a.1.1 a.2.1 a.2.2)))
abbrev spFolL (K : PySem.W.Frag) (mg : Str → Option Value) : Sp := spD K mg (α := Sh × List Int × List Int × Int) (fun a => [shT a.1, intsD a.2.1, intsD a.2.2.1, .int a.2.2.2]) (fun a => Good a.1) (fun a => .ok (.bool (changed a.1 a.2.1 a.2.2.1 a.2.2.2).isEmpty))
/-- [h for h in range(10) if ..][0] or None -/
theorem least_ret {X : Cx} {F : Fr0} {ρ : DL.Env} {N : DEnd} {i k : Nat} {x : Str} {f : Nat → Bool} {p1 p2 p3 p4 p5 p6 p7 p8 p9 : Pos} {n1 n2 : Nat} (hr : Room k X.A) (hi : ρ[i]? = some (.own (((List.range 10).filter f).map fun i => .int (i : Nat)))) (hN : X.N[i]? = some x) (hv : Vis X.env.scope x) (hd : (x == ("__debug__" : Str)) = false) (hcd : (x == ("__classdict__" : Str)) = false)
    (ret : N.rt ρ (optD ((List.range 10).find? f))) : DS X F ρ [.Return (some (.IfExp (.Compare (.Name x p1) [.NotEq] [.List [] p2] p3) (.Subscript (.Name x p4) (.Constant (.int 0) n1 p5) p6) (.Constant .none n2 p7) p8)) p9] N := by
  refine ds_ret (de_ifS (d := optD ((List.range 10).find? f)) (neNil (xs := ((List.range 10).filter f).map fun i => .int (i : Nat)) hr (by rw [show (fun i : Nat => PyData.int (i : Nat)) = toD ∘ (fun i : Nat => (i : Int)) from rfl, ← List.map_map]; exact pl_ty _) (vo i hi hN hv hd hcd)) (fun h => ?_) fun h => ?_) ret
  all_goals
    have hh := List.head?_filter (p := f) (l := List.range 10)
    cases q : (List.range 10).filter f with
    | nil =>
      rw [q] at h hh
      first
        | (cases h; done)
        | (rw [← hh]; exact de_non)
    | cons k r =>
      rw [q] at h hh
      first
        | (cases h; done)
        | (rw [← hh]; exact de_ixR atI_zero (vo i (by rw [hi, q]; rfl) hN hv hd hcd) de_int)
abbrev spLeastL (K : PySem.W.Frag) (mg : Str → Option Value) : Sp := spD K mg (α := Sh × List Int × List Int) (fun a => [shT a.1, intsD a.2.1, intsD a.2.2]) (fun a => Good a.1) (fun a => .ok (optD (leastF a.1 a.2.1 a.2.2)))
end
end LP
/-! W13: refusals told; many slots forgotten. -/
namespace LP
open PySem PySem.Spec PyProof.Rows L2 DL L2H LamX LQ
/-- what is known of all exceptions that a term may name -/
structure Refs (K : PySem.W.Frag) (mg : Str → Option Value) (CS : Addr) : Prop where
  pe : mg "PoolError" = some (.ref CS)
  all : ∀ n ∈ termNames, ∃ Da, IsK K mg n Da ∧ PySem.W.exmOne K (.ref Da) (.ref CS) = some true
theorem ds_fg {X : Cx} {F : Fr0} {ρ : DL.Env} {rest : List Stmt} {N : DEnd} : ∀ (is : List Nat), DS X F (wipeE ρ is) rest N → DS X F ρ rest N
  | [], h => h
  | i :: is, h => ds_fg is (ds_forget i h)
section
variable {X : Cx} {F : Fr0} {E : Fam} {Tb : List (Addr × Str)} {c Pt CS : Addr} {k : Nat} {x : Str} {ps : List Str} {α : Type} {enc : α → List D} {pre : α → Prop} {res : α → Out} {e : Expr} {es : List Expr} {params : Arguments} {scope : Scope} {p1 p2 pos pos2 lpos : Pos}
theorem dx_toldR {S : D → Prop} (T : Tx X.K X.mg) (Rf : Refs X.K X.mg CS) (hF : LamF F Tb) (hC : LamC X Tb c Pt) (Df : DefX X k x ps (spD X.K X.mg enc pre res)) (w : α) (hr : Room (k + 2) X.A) (L : LamS X.env.scope scope)
    (ha : ∀ (A : Around) (outer : List PySem.Env) (s : Shared) (H : Hp) (E9 : XK) (f c' : Addr) (x k : Int), DA (lamN X A outer s H E9 scope f c') F.H0 (E x k) (e :: es) (enc w)) (hp : pre w) (hS : S (told (res w))) (hnm : ∀ n, res w = .err n → n ∈ termNames)
    (hg : Gl X "_law_told" := by rfl) (hgl : scope.names.lookup x = some .globalImplicit := by rfl) (hdef : defaultsOf params X.env = ([], []) := by rfl) (hbind : ∀ (q : Str) (cl : List (Str × Addr)) (pm cv ctv : Value), bindArgs (PySem.W.kla_fn "<lambda>" q params (.Call (.Name x p2) (e :: es) [] pos2) scope cl pm cv ctv) ⟨[], []⟩ = pure [] := by intros; rfl) (hdb : (x == ("__debug__" : Str)) = false := by decide)
    (he : ∀ (A : Around) (outer : List PySem.Env) (s : Shared) (H : Hp) (E9 : XK) (f c' : Addr), starEach (e :: es) (lamN X A outer s H E9 scope f c').env = (false, eval e (lamN X A outer s H E9 scope f c').env) :: starEach es (lamN X A outer s H E9 scope f c').env := by intros; rfl)
    (hpl : ∀ (A : Around) (outer : List PySem.Env) (s : Shared) (H : Hp) (E9 : XK) (f c' : Addr), (backTo pos2 (starEach es (lamN X A outer s H E9 scope f c').env)).any (·.1) = false := by intros; rfl) :
    DX X F E (.Call (.Name "_law_told" p1) [.Lambda params (.Call (.Name x p2) (e :: es) [] pos2) scope lpos] [] pos) S :=
  dx_told T Rf.pe hF hC Df w hr L ha hp hS (fun n hn => Rf.all n (hnm n hn)) hg hgl hdef hbind hdb he hpl
/-- it is refused -/
theorem dx_ref {n : Str} (T : Tx X.K X.mg) (Rf : Refs X.K X.mg CS) (hF : LamF F Tb) (hC : LamC X Tb c Pt) (Df : DefX X k x ps (spD X.K X.mg enc pre res)) (w : α) (hr : Room (k + 2) X.A) (L : LamS X.env.scope scope)
    (ha : ∀ (A : Around) (outer : List PySem.Env) (s : Shared) (H : Hp) (E9 : XK) (f c' : Addr) (x k : Int), DA (lamN X A outer s H E9 scope f c') F.H0 (E x k) (e :: es) (enc w)) (hp : pre w) (hn : res w = .err n) (hnm : termNames.contains n = true := by decide +kernel)
    (hg : Gl X "_law_told" := by rfl) (hgl : scope.names.lookup x = some .globalImplicit := by rfl) (hdef : defaultsOf params X.env = ([], []) := by rfl) (hbind : ∀ (q : Str) (cl : List (Str × Addr)) (pm cv ctv : Value), bindArgs (PySem.W.kla_fn "<lambda>" q params (.Call (.Name x p2) (e :: es) [] pos2) scope cl pm cv ctv) ⟨[], []⟩ = pure [] := by intros; rfl) (hdb : (x == ("__debug__" : Str)) = false := by decide)
    (he : ∀ (A : Around) (outer : List PySem.Env) (s : Shared) (H : Hp) (E9 : XK) (f c' : Addr), starEach (e :: es) (lamN X A outer s H E9 scope f c').env = (false, eval e (lamN X A outer s H E9 scope f c').env) :: starEach es (lamN X A outer s H E9 scope f c').env := by intros; rfl)
    (hpl : ∀ (A : Around) (outer : List PySem.Env) (s : Shared) (H : Hp) (E9 : XK) (f c' : Addr), (backTo pos2 (starEach es (lamN X A outer s H E9 scope f c').env)).any (·.1) = false := by intros; rfl) :
    DX X F E (.Call (.Name "_law_told" p1) [.Lambda params (.Call (.Name x p2) (e :: es) [] pos2) scope lpos] [] pos) (fun d => d = refusedD n) :=
  dx_toldR T Rf hF hC Df w hr L ha hp (by rw [hn]; rfl) (fun m hm => by rw [hn] at hm; cases hm; exact List.contains_iff_mem.mp hnm) hg hgl hdef hbind hdb he hpl
end
end LP
/-! DL21: range downwards; min with a default; three set at once. -/
namespace MinD
open PySem PySem.Spec PyProof.Rows
theorem ok_min (a v : Value) : argsOk "min" ⟨[a], [(Str.ofString "default", v)]⟩ := by unfold argsOk; kernel_rfl
section
variable {prog : Program} {w : World} {A : Around} {R : Result → Shared → Prop} {I : Addr} {fp wr : List Addr} {n : Nat} {P : Nat → Value → Prop} {St : Nat → Heap → Prop}
/-- what the list of the best holds behind j items -/
def Best (bt : Nat → Nat → Bool) (P : Nat → Value → Prop) (j : Nat) (old : Array Value) : Prop := (j = 0 ∧ old = #[]) ∨ ∃ i v, j = i + 1 ∧ old = #[v, v] ∧ P (argBest bt i) v
theorem turns (W : Walks prog w A.in1 I fp wr n P St) (bt : Nat → Nat → Bool) (hcmp : CmpOf prog w A.in1 .Lt P bt) (d : Value) (S : Addr) (hSf : S ∉ fp) : ∀ (k j : Nat) (s : Shared) (old : Array Value) (c : Nat), k + j = n → St j s.heap → Best bt P j old → s.heap.get? S = some { cls := .type "list", dict := none, data := .seq old c, slots := #[] } →
    (∀ v h' tk, ((n = 0 ∧ v = d) ∨ ∃ i, n = i + 1 ∧ P (argBest bt i) v) → (∀ b o, b ∉ wr → b ≠ S → s.heap.get? b = some o → h'.get? b = some o) → R (.ok (.ret v)) { s with heap := h', toks := tk }) →
    codeAny (model prog w) A (.builtin "min.loop" ⟨[.ref I, .none, .ref S], [(Str.ofString "default", d)]⟩) R s
  | 0, j, s, old, c, hk, hst, hB, hS, hR => by
    have hj : j = n := by omega
    subst hj
    have hSw : S ∉ wr := fun h => hSf (W.sub _ h)
    refine codeAny_builtin F.entry_min_loop ?_
    rw [Around.under_plainId F.plain_min_loop _]
    show wpAny _ A.in1 (seqItems? (.ref S) >>= _) _ _ s
    refine wpAny_bind (wpAny_seqItems hS rfl ?_)
    show wpAny _ A.in1 (tryCatch (pyNext (.ref I)) _ >>= _) _ _ s
    refine wpAny_bind (wpAny_tryCatch (W.done s _ _ hst fun h' tk hk' => ?_))
    rcases hB with ⟨h0, rfl⟩ | ⟨i, v, hi, rfl, hv⟩
    · exact wpAny_bind (wpAny_rule (wpAny_pure (hR d _ tk (.inl ⟨h0, rfl⟩) fun b o hb _ e => hk' b o hb e)))
    · have hS' := hk' S _ hSw hS
      show wpAny _ A.in1 (updateSeq S (fun _ => #[]) >>= _) _ _ _
      refine wpAny_bind (wpAny_updateSeq hS' rfl (wpAny_bind (wpAny_letGo (wpAny_pure ?_))))
      exact hR v _ tk (.inr ⟨i, hi, hv⟩) fun b o hb hbS e => (Heap.get?_update_other _ _ (Ne.symm hbS)).trans (hk' b o hb e)
  | k + 1, j, s, old, c, hk, hst, hB, hS, hR => by
    have hSw : S ∉ wr := fun h => hSf (W.sub _ h)
    have hname : (toString "min" ++ toString ".loop" : String) = "min.loop" := by decide
    refine codeAny_builtin F.entry_min_loop ?_
    rw [Around.under_plainId F.plain_min_loop _]
    show wpAny _ A.in1 (seqItems? (.ref S) >>= _) _ _ s
    refine wpAny_bind (wpAny_seqItems hS rfl ?_)
    show wpAny _ A.in1 (tryCatch (pyNext (.ref I)) _ >>= _) _ _ s
    refine wpAny_bind (wpAny_tryCatch (W.item j s _ _ (by omega) hst fun v h' tk hP hst' hk' => ?_))
    have hS' := hk' S _ hSw hS
    have other : ∀ {h2 : Heap} {f : Obj → Obj} {b : Addr} {o : Obj}, b ≠ S → h2.get? b = some o → (h2.update S f).get? b = some o := fun hb e => (Heap.get?_update_other _ _ (Ne.symm hb)).trans e
    have inF : ∀ {b : Addr}, b ∈ fp → b ≠ S := fun hb e => hSf (e ▸ hb)
    rcases hB with ⟨rfl, rfl⟩ | ⟨i, vb, rfl, rfl, hvb⟩
    · show wpAny _ A.in1 (updateSeq S (fun _ => #[v, v]) >>= _) _ _ _
      refine wpAny_bind (wpAny_updateSeq hS' rfl ?_)
      rw [hname]
      refine wpAny_pure ⟨plainId_quiet F.plain_min_loop _, turns W bt hcmp d S hSf k 1 _ #[v, v] _ (by omega) (W.frame _ _ _ hst' fun b hb o e => other (inF hb) e) (.inr ⟨0, v, rfl, rfl, hP⟩) (Heap.get?_update_self _ hS' rfl) fun v' h2 tk2 q kk => ?_⟩
      exact hR v' h2 tk2 q fun b o hb hbS e => kk b o hb hbS (other hbS (hk' b o hb e))
    · show wpAny _ A.in1 (tryCatch (holding [v, v] (richCompare .Lt v vb >>= _)) _ >>= _) _ _ _
      refine wpAny_bind (wpAny_tryCatch (wpAny_holding (wpAny_bind (hcmp (i + 1) (argBest bt i) v vb _ _ _ hP hvb (wpAny_bind (wpAny_holding (wpAny_truthy_bool (wpAny_bind (wpAny_letGo (wpAny_pure ?_))))))))))
      cases hb : bt (i + 1) (argBest bt i) with
      | true =>
        rw [if_pos rfl]
        refine wpAny_bind (wpAny_updateSeq hS' rfl (wpAny_bind (wpAny_letGo ?_)))
        rw [hname]
        refine wpAny_pure ⟨plainId_quiet F.plain_min_loop _, turns W bt hcmp d S hSf k (i + 2) _ #[v, v] _ (by omega) (W.frame _ _ _ hst' fun b hb o e => other (inF hb) e) (.inr ⟨i + 1, v, rfl, rfl, by simp only [argBest, hb, if_true]; exact hP⟩) (Heap.get?_update_self _ hS' rfl) fun v' h2 tk2 q kk => ?_⟩
        exact hR v' h2 tk2 q fun b o hb hbS e => kk b o hb hbS (other hbS (hk' b o hb e))
      | false =>
        rw [if_neg Bool.false_ne_true]
        refine wpAny_bind (wpAny_letGo ?_)
        rw [hname]
        refine wpAny_pure ⟨plainId_quiet F.plain_min_loop _, turns W bt hcmp d S hSf k (i + 2) _ #[vb, vb] c (by omega) hst' (.inr ⟨i + 1, vb, rfl, rfl, by simp only [argBest, hb, Bool.false_eq_true, if_false]; exact hvb⟩) hS' fun v' h2 tk2 q kk => ?_⟩
        exact hR v' h2 tk2 q fun b o hb hbS e => kk b o hb hbS (hk' b o hb e)
end
section
variable {prog : Program} {w : World} {A : Around} {E : Value → Shared → Prop} {s : Shared} {l : Addr} {its : List Value} {ns : List Int} {Q : Value → Shared → Prop}
theorem min_d {d : Value} (hh : A.handled = none) (hl : s.heap.IsList l its.toArray) (hi : IntsAre its ns)
    (h : ∀ v h' tk, (∀ b o, s.heap.get? b = some o → h'.get? b = some o) → ((ns = [] ∧ v = d) ∨ ∃ m t, v = .int m t ∧ m ∈ ns ∧ ∀ a ∈ ns, m ≤ a) → Q v { s with heap := h', toks := tk }) : wpAny (model prog w) A (call (.builtin "min") [.ref l] [(Str.ofString "default", d)]) Q E s := by
  have hname : (toString "min" ++ toString ".loop" : String) = "min.loop" := by decide
  refine kmk_tree F.kind_min F.plain_min F.entry_min (ok_min _ _) ?_
  show wpAny _ A.in1 (Builtin.Builtins.bindParams "min" ["key", "default"] 0 ⟨[], [(Str.ofString "default", d)]⟩ >>= _) _ _ s
  refine wpAny_bind (wpAny_of_eq (show Builtin.Builtins.bindParams "min" ["key", "default"] 0 ⟨[], [(Str.ofString "default", d)]⟩ = pure [none, some d] from rfl) ?_)
  refine wpAny_bind (wpAny_pure ?_)
  obtain ⟨xs, e⟩ := hi.allInts.items
  have hn : numsOf (intItems xs).toList = ns := by rw [← e]; exact hi.numsOf
  rw [nums_intItems] at hn
  subst hn
  rw [e] at hl
  refine wpAny_bind (iter_intList hl fun s₂ e2 st hfp hlI => ?_)
  subst e2
  refine wpAny_bind (wpAny_newObj_type ?_)
  rw [hname]
  have hsz : (intItems xs).size = xs.size := by simp [intItems]
  have hS : ∀ b ∈ [s.heap.objs.size, l], b < (s.heap.push { cls := .type "list_iterator", data := .fields #[.ref l, .int 0 0] }).objs.size := hfp
  refine wpAny_pure ⟨plainId_quiet F.plain_min_loop _, turns (Walks.list (A := A.in1) hh _ l hlI (intItems xs)) (fun i j => decide (numAt xs i < numAt xs j)) (CmpOf.ints_lt (numAt xs) (fun _ _ => intItems_at)) d _ (fun hm => Nat.lt_irrefl _ (hfp _ hm)) (intItems xs).size 0 _ #[] _ (Nat.add_zero _) ((Walks.list (prog := prog) (w := w) (A := A.in1) hh _ l hlI (intItems xs)).frame 0 _ _ st fun b _ o e => Heap.get?_push_of_some _ e) (.inl ⟨rfl, rfl⟩) (Heap.get?_push_size _ rfl) fun v h' tk q kk => ?_⟩
  refine h v h' tk (fun b o e => ?_) ?_
  · have hb : b < s.heap.objs.size := Heap.lt_size e
    refine kk b o (fun hm => ?_) (Nat.ne_of_lt ?_) (Heap.get?_push_of_some _ (Heap.get?_push_of_some _ e))
    · rw [List.mem_singleton.mp hm] at hb; exact Nat.lt_irrefl _ hb
    · rw [Heap.size_push]; exact Nat.lt_succ_of_lt hb
  · rw [hsz] at q
    rcases q with ⟨h0, rfl⟩ | ⟨i, hi2, hv⟩
    · refine .inl ⟨?_, rfl⟩
      rw [List.map_eq_nil_iff]
      exact Array.toList_eq_nil_iff.mpr (Array.eq_empty_of_size_eq_zero h0)
    · obtain ⟨t, rfl⟩ := intItems_at hv
      obtain ⟨h1, h2⟩ := argBest_lt (numAt xs) i
      refine .inr ⟨_, t, rfl, ?_, fun a ha => ?_⟩
      · rw [numAt_eq]; exact PySem.getD_mem (by rw [List.length_map, Array.length_toList]; omega)
      · obtain ⟨j, hj, rfl⟩ := mem_getD ha
        rw [List.length_map, Array.length_toList] at hj
        rw [← numAt_eq]; exact h2 j (by omega)
end
end MinD
namespace DL
open PySem PySem.Spec PyProof.Rows L2
def rMinD (K : PySem.W.Frag) : List V → List V → Hp → VK → Prop := fun xs zs H Q => ∃ (a : Addr) (ns : List Int) (d : V), xs = [V.ref a] ∧ zs = [d] ∧ SqL K H a (ns.map V.int) ∧ (ns = [] → Q d H) ∧ ∀ m, m ∈ ns → (∀ y ∈ ns, m ≤ y) → Q (.int m) H
theorem cr_minD {X : Cx} (hc : X.calm = true) : CallRK X (.builtin "min") [Str.ofString "default"] (rMinD X.K) := by
  rintro pins s σ H xs zs us ws Q I rx rz ⟨a, ns, d, rfl, rfl, hs, q1, q2⟩
  obtain ⟨its, rv, hl, _⟩ := I.list hs
  rw [Vals.ref1 rx]
  cases rz with
  | cons rd rt =>
    cases rt
    refine MinD.min_d (I.ok.hd hc) hl.isList rv.ints fun v h' tk hk q => ?_
    rcases q with ⟨h0, rfl⟩ | ⟨m, t, rfl, h1, h2⟩
    · exact ⟨d, H, I.kept hk, rd, q1 h0⟩
    · exact ⟨.int m, H, I.kept hk, ⟨t, rfl⟩, q2 m h1 h2⟩
def minD (ns : List Int) : D := match ns.min? with | none => .none | some m => .int m
section
variable {X : Cx} {F : Fr0} {E : Fam} {H0 : Bs} {ρ : DL.Env} {a b c e e2 e3 : Expr} {ds ds' : List D} {pos p1 p2 p3 kpos : Pos} {nm : Option Str} {n : Nat} {d : D} {ns : List Int}
theorem min_some {m : Int} (h1 : m ∈ ns) (h2 : ∀ y ∈ ns, m ≤ y) : ns.min? = some m := List.min?_eq_some_iff.mpr ⟨h1, h2⟩
/-- min(xs, default=None) -/
theorem minDR (bt : Bt X.mg) (hc : X.calm = true) (ha : DR X H0 ρ e (ns.map .int)) (hg : Gl X "min" := by rfl)
    (he : starEach (e :: []) X.env = (false, eval e X.env) :: starEach [] X.env := by rfl) (hb : backTo pos (starEach (e :: []) X.env) = (false, eval e X.env) :: backTo pos (starEach [] X.env) := by rfl) (hpl : (backTo pos (starEach (e :: []) X.env)).any (·.1) = false := by rfl)
    (hall : (backToKw pos (keywordEach [⟨nm, .Constant .none n p2, kpos⟩] X.env)).all (·.1.isSome) = true := by rfl) (hnone : (backToKw pos (keywordEach [⟨nm, .Constant .none n p2, kpos⟩] X.env)).any (·.1.isNone) = false := by rfl) (hks : (backToKw pos (keywordEach [⟨nm, .Constant .none n p2, kpos⟩] X.env)).filterMap (·.1) = [Str.ofString "default"] := by rfl) :
    DE X H0 ρ (.Call (.Name "min" p1) [e] [⟨nm, .Constant .none n p2, kpos⟩] pos) (minD ns) :=
  (pe_callBK (cr_minD hc) hg (bt.at _) (by decide +kernel) (pa_one ha he) (pk_cons pe_non pk_nil) (by decide) (by decide) hb hpl hall hnone hks).imp fun σ H Q ⟨G, x, sl, q⟩ => ⟨G, x, sl, fun p vs G1 H1 y hs r => ⟨p, ns, .non, rfl, rfl, by rw [← dpAll_ints r]; exact hs, fun h0 => by
    subst h0
    exact q _ G1 H1 y .non, fun m h1 h2 => q _ G1 H1 y (by unfold minD; rw [min_some h1 h2]; exact .int m)⟩⟩
end
end DL
namespace DL
open PySem PySem.Spec PyProof.Rows L2
section
variable {X : Cx} {F : Fr0} {E : Fam} {H0 : Bs} {ρ : DL.Env} {a b c e e2 e3 tg : Expr} {ds ds' : List D} {pos p1 p2 p3 : Pos} {S : D → Prop} {d2 : D} {i j k : Nat} {x y z : Str} {rest : List Stmt} {N : DEnd}
theorem wd_down {K : PySem.W.Frag} {G : Hp} {lo : Int} {n : Nat} : WalkD K G (Itc lo (-1) n) ((List.range n).map fun i => .int (lo - (i : Nat))) := by
  rw [WalkD, List.length_map, List.length_range]
  refine ⟨fun i H x H' => i < n ∧ H' = H ∧ x = .int (lo + (i : Nat) * (-1)), ⟨fun i H hi _ => hi, fun H _ => Nat.le_refl n, fun i H x H' hi _ y => ⟨hi, y.1, y.2⟩⟩, fun i H' x H'' G' y e1 e2 => ?_⟩
  obtain ⟨hi, rfl, rfl⟩ := y
  refine ⟨G', .int (lo - (i : Nat)), Ext.refl e2, by rw [List.getElem?_map, List.getElem?_range hi]; rfl, ?_⟩
  rw [show lo + ((i : Nat) : Int) * (-1) = lo - (i : Nat) by omega]
  exact .int _
/-- range(lo, hi, -1) -/
theorem rangeDown {lo hi : Int} (bt : Bt X.mg) (ha : DE X H0 ρ a (.int lo)) (hb : DE X H0 ρ b (.int hi)) (hcc : DE X H0 ρ c (.int (-1))) (hn : -(2 ^ 62) ≤ lo ∧ lo < 2 ^ 62 ∧ -(2 ^ 62) ≤ hi ∧ hi < 2 ^ 62) (hg : Gl X "range" := by rfl)
    (he : starEach (a :: [b, c]) X.env = (false, eval a X.env) :: starEach [b, c] X.env := by rfl) (he2 : starEach (b :: [c]) X.env = (false, eval b X.env) :: starEach [c] X.env := by rfl) (he3 : starEach (c :: []) X.env = (false, eval c X.env) :: starEach [] X.env := by rfl) (hpl : (backTo pos (starEach [b, c] X.env)).any (·.1) = false := by rfl) :
    DI X H0 ρ tg (.Call (.Name "range" p1) [a, b, c] [] pos) ((List.range (lo - hi).toNat).map fun i => .int (lo - (i : Nat))) :=
  (pi_range3 hg (bt.at _) (da_cons ha (da_cons hb (da_cons hcc da_nil he3) he2) he) he hpl).imp fun σ H R ⟨G, x, sl, q⟩ => ⟨G, x, sl, fun vs G1 H1 y r => by
    obtain ⟨v1, r1, rfl, k1, r⟩ := r.inv_cons
    obtain ⟨v2, r2, rfl, k2, r⟩ := r.inv_cons
    obtain ⟨v3, r3, rfl, k3, r⟩ := r.inv_cons
    obtain rfl := r.inv_nil
    obtain rfl := dp_int k1
    obtain rfl := dp_int k2
    obtain rfl := dp_int k3
    exact ⟨lo, hi, -1, (lo - hi).toNat, rfl, RgC.neg hn.1 hn.2.1 hn.2.2.1 hn.2.2.2, q _ G1 H1 y wd_down⟩⟩
/-- x, y, z = a changing thing, data, a new list -/
theorem dsx_par3 (ha : DX X F E a S) (hb : ∀ x k, DE X F.H0 (E x k) b d2) (hcl : ∀ x k, DL X F.H0 (E x k) c ds) (hr : ∀ d, S d → DSX X F (fun x0 k0 => (((E x0 k0).set i (.dat d)).set j (.dat d2)).set k (.own ds)) rest N) (hc : X.calm = true) (hN : X.N.Nodup) {px py pz pt : Pos} {kt k2 pt2} (hi : X.N[i]? = some x := by rfl) (hj : X.N[j]? = some y := by rfl) (hk : X.N[k]? = some z := by rfl)
    (hx : Loc X.env.scope x := by first | exact .inl rfl | exact .inr rfl) (hy : Loc X.env.scope y := by first | exact .inl rfl | exact .inr rfl) (hz : Loc X.env.scope z := by first | exact .inl rfl | exact .inr rfl) (hfx : X.fn x = true ∨ X.env.scope.names.lookup x = some .local := by first | exact .inl rfl | exact .inr rfl | assumption) (hfy : X.fn y = true ∨ X.env.scope.names.lookup y = some .local := by first | exact .inl rfl | exact .inr rfl | assumption) (hfz : X.fn z = true ∨ X.env.scope.names.lookup z = some .local := by first | exact .inl rfl | exact .inr rfl | assumption)
    (hw : swappedStores [.Tuple [.Name x px, .Name y py, .Name z pz] kt pt] (.Tuple [a, b, c] k2 pt2) X.env = pure none := by rfl) (hs : swapsWithSole [.Tuple [.Name x px, .Name y py, .Name z pz] kt pt] (.Tuple [a, b, c] k2 pt2) pos.line X.env = pure false := by rfl)
    (h1 : (assignEach [.Tuple [.Name x px, .Name y py, .Name z pz] kt pt] X.env).map (·.2) = [assign (.Tuple [.Name x px, .Name y py, .Name z pz] kt pt) X.env] := by rfl)
    (hs1 : starEach (a :: [b, c]) X.env = (false, eval a X.env) :: starEach [b, c] X.env := by rfl) (hs2 : starEach (b :: [c]) X.env = (false, eval b X.env) :: starEach [c] X.env := by rfl) (hs3 : starEach (c :: []) X.env = (false, eval c X.env) :: starEach [] X.env := by rfl)
    (ht1 : (assignEach [.Name x px, .Name y py, .Name z pz] X.env).map (·.2) = assign (.Name x px) X.env :: (assignEach [.Name y py, .Name z pz] X.env).map (·.2) := by rfl) (ht2 : (assignEach [.Name y py, .Name z pz] X.env).map (·.2) = assign (.Name y py) X.env :: (assignEach [.Name z pz] X.env).map (·.2) := by rfl) (ht3 : (assignEach [.Name z pz] X.env).map (·.2) = assign (.Name z pz) X.env :: (assignEach [] X.env).map (·.2) := by rfl)
    (hn : (assignEach [.Name x px, .Name y py, .Name z pz] X.env).length = 3 := by rfl) (hst : (assignEach [.Name x px, .Name y py, .Name z pz] X.env).findIdx? (·.1) = none := by rfl) :
    DSX X F E (.Assign [.Tuple [.Name x px, .Name y py, .Name z pz] kt pt] (.Tuple [a, b, c] k2 pt2) pos :: rest) N := fun x0 k0 => by
  have hb' : PE X b (fun σ H Q => ∃ x k, tD X.K F.H0 (E x k) d2 σ H Q) := ⟨fun pins s σ H Q I ⟨x, k, q⟩ => (hb x k).run pins s σ H Q I q⟩
  have hc' : PE X c (fun σ H Q => ∃ x k, tL X.K F.H0 (E x k) ds σ H Q) := ⟨fun pins s σ H Q I ⟨x, k, q⟩ => (hcl x k).run pins s σ H Q I q⟩
  refine (pss_cons (ps_asg (pe_tup (pa_cons ha (pa_cons hb' (pa_cons hc' pa_nil hs3) hs2) hs1)) (pg_tup hc (pgs_cons (pg_name hN hi hx hfx) (pgs_cons (pg_name hN hj hy hfy) (pgs_cons (pg_name hN hk hz hfz) pgs_nil ht3) ht2) ht1) hn hst) hs hw h1) PSs.any).imp fun D σ H ⟨G, ex, sl, aa⟩ => ⟨x0, k0, G, ex, sl, fun d x1 k1 v G1 H1 s1 e1 g1 sl1 r1 => ⟨x1, k1, G1, e1.gh, sl1, fun u G2 H2 y2 r2 => ⟨x1, k1, G2, y2.gh, sl1.up y2, fun q vs G3 H3 z m m1 hq r3 => ⟨by show 3 ≤ sizeLine; decide, fun T hT => ?_⟩⟩⟩⟩
  refine ⟨T, [v, u, .ref q], rfl, .inl (.inl upd_same), rfl, v, [u, .ref q], rfl, u, [.ref q], rfl, .ref q, [], rfl, rfl, _, hr d s1 x1 k1, ?_⟩
  have yz := y2.trans z
  have e2 := e1.trans yz
  have s2 := (((sl1.up yz).setD (i := i) (r1.up yz.g)).setD (i := j) (r2.up z.g)).setO (i := k) (p9 := none) ((e1.trans y2).h.back m) m1 hq r3 ((((sl1.up y2).setD (i := i) (r1.up y2.g)).setD (i := j) r2).free m)
  have xT : Ext G3 H3 G3 (upd H3 T (.tup [v, u, .ref q])) := Ext.heap z.gh (Ex.new hT)
  exact tS_up (D := D) (e2.trans xT) (g1.trans yz.g) (s2.up xT) aa
end
end DL
/-! P6: plain: rims of sets of pools; how they show the least height of a night. -/
namespace LP
open PySem PySem.Spec PyProof.Rows L2 DL
theorem closed_shut {s : Sh} {h : Int} {S : List Str} (c : ClosedL s h S) : ShutL s h S := fun p q hp cn => Conn.closed (S := (· ∈ S)) hp (fun a b k hm hk => c (a, b, k) hm hk) cn
/-- the heights of the ridges that part S from the rest -/
def rimL (s : Sh) (S : List Str) : List Int := (s.2.filter fun r => !decide (decide (r.1 ∈ S) = decide (r.2.1 ∈ S))).map fun r => r.2.2
theorem mem_rimL {s : Sh} {S : List Str} {m : Int} : m ∈ rimL s S ↔ ∃ r ∈ s.2, ¬ (r.1 ∈ S ↔ r.2.1 ∈ S) ∧ r.2.2 = m := by
  unfold rimL
  rw [List.mem_map]
  constructor
  · rintro ⟨r, hr, rfl⟩
    rw [List.mem_filter] at hr
    exact ⟨r, hr.1, by simpa using hr.2, rfl⟩
  · rintro ⟨r, hr, h, rfl⟩
    exact ⟨r, List.mem_filter.mpr ⟨hr, by simpa using h⟩, rfl⟩
/-- what changes has a rim that the water covers, where it lets the counts be -/
theorem rim_le {s : Sh} (g : Good s) {b a : List Int} {h : Int} {S : List Str} (hS : ∀ p ∈ S, p ∈ s.1) (q : (changed s b a h).isEmpty = true) (ne : inLot s.1 b S ≠ inLot s.1 a S) : ∃ m ∈ rimL s S, m ≤ h := by
  refine Classical.byContradiction fun no => ne ?_
  refine shut_same (h := h) g ((changed_nil g).mp q) S.length S (Nat.le_refl _) hS (closed_shut fun r hr hh => ?_)
  exact Classical.byContradiction fun z => no ⟨_, mem_rimL.mpr ⟨r, hr, z, rfl⟩, hh⟩
/-- the rim of a lot is above its height -/
theorem rim_gt {s : Sh} (g : Good s) {h : Int} {p : Str} (hp : p ∈ s.1) {m : Int} (hm : m ∈ rimL s (lotOf s h p)) : h < m := by
  obtain ⟨r, hr, z, rfl⟩ := mem_rimL.mp hm
  refine Int.not_le.mp fun hh => z ?_
  rw [mem_lotOf' g hp, mem_lotOf' g hp]
  exact ⟨fun c => .fwd c hr hh, fun c => .bwd c hr hh⟩
theorem inLot_one : ∀ {ps : List Str} {b a : List Int}, ps.Nodup → b.length = ps.length → a.length = ps.length → (∀ p ∈ ps, inLot ps b [p] = inLot ps a [p]) → b = a
  | [], [], [], _, _, _, _ => rfl
  | p :: ps, x :: b, y :: a, nd, hb, ha, h => by
    rw [List.nodup_cons] at nd
    have h0 := h p List.mem_cons_self
    have e0 : ∀ ns, inLot ps ns [p] = 0 := fun ns => inLot_empty fun q hq z => nd.1 (List.mem_singleton.mp z ▸ hq)
    rw [inLot_cons, inLot_cons, e0, e0, if_pos List.mem_cons_self, if_pos List.mem_cons_self] at h0
    have e : x = y := by omega
    subst e
    have e1 : b = a := inLot_one nd.2 (by simpa using hb) (by simpa using ha) fun q hq => by
      have := h q (List.mem_cons_of_mem _ hq)
      rw [inLot_cons, inLot_cons] at this
      omega
    rw [e1]
structure Hts (s : Sh) : Prop where
  lo : ∀ r ∈ s.2, 1 ≤ r.2.2
  hi : ∀ r ∈ s.2, r.2.2 ≤ 9
theorem conn_zero {s : Sh} (z : Hts s) {p q : Str} (c : Conn s 0 p q) : p = q := by
  have aux : ∀ {h : Int} {x y : Str}, Conn s h x y → h = 0 → x = y := fun {h x y} c => by
    induction c with
    | refl => exact fun _ => rfl
    | fwd _ hm hh _ => intro e; subst e; exact absurd hh (Int.not_le.mpr (Int.lt_of_lt_of_le (by decide) (z.lo _ hm)))
    | bwd _ hm hh _ => intro e; subst e; exact absurd hh (Int.not_le.mpr (Int.lt_of_lt_of_le (by decide) (z.lo _ hm)))
  exact aux c rfl
theorem follows_zero {s : Sh} (g : Good s) (z : Hts s) {b a : List Int} (hb : b.length = s.1.length) (ha : a.length = s.1.length) (q : (changed s b a 0).isEmpty = true) : b = a := by
  refine inLot_one (pw_nodup g.up) hb ha fun p hp => ?_
  have := (changed_nil g).mp q p hp
  have e : ∀ ns, inLot s.1 ns (lotOf s 0 p) = inLot s.1 ns [p] := fun ns => inLot_congr fun x hx => by
    rw [mem_lotOf' g hp, List.mem_singleton]
    exact ⟨fun c => (conn_zero z c).symm, fun e => e ▸ .refl _⟩
  rw [e, e] at this
  exact this
/-- the height at which lot_for looks -/
def atHt (L : Option Nat) : Int := match L with | none => 9 | some m => (m : Int) - 1
theorem lot_shows {s : Sh} (g : Good s) (z : Hts s) {b a : List Int} (hb : b.length = s.1.length) (ha : a.length = s.1.length) (ne : b ≠ a) :
    ∃ lot r, changed s b a (atHt (leastF s b a)) = lot :: r ∧ (∃ p ∈ s.1, lot = ⟨lotOf s (atHt (leastF s b a)) p⟩) ∧ inLot s.1 b lot.items ≠ inLot s.1 a lot.items ∧ minD (rimL s lot.items) = optD (leastF s b a) := by
  have notE : (changed s b a (atHt (leastF s b a))).isEmpty = false := by
    cases hl : leastF s b a with
    | none => exact find_no hl 9 (by decide)
    | some m =>
      cases m with
      | zero => exact absurd (follows_zero g z hb ha (find_least hl).1) ne
      | succ m =>
        show (changed s b a (((m + 1 : Nat) : Int) - 1)).isEmpty = false
        rw [show (((m + 1 : Nat) : Int) - 1) = (m : Int) by omega]
        exact (find_least hl).2.2 m (Nat.lt_succ_self m)
  cases hc : changed s b a (atHt (leastF s b a)) with
  | nil => rw [hc] at notE; cases notE
  | cons lot r =>
    have hm : lot ∈ changed s b a (atHt (leastF s b a)) := by rw [hc]; exact List.mem_cons_self
    have hm2 := List.mem_filter.mp hm
    obtain ⟨p, hp, e⟩ := (mem_allLots g).mp hm2.1
    have hne : inLot s.1 b lot.items ≠ inLot s.1 a lot.items := by simpa using hm2.2
    refine ⟨lot, r, rfl, ⟨p, hp, e⟩, hne, ?_⟩
    have gt : ∀ m ∈ rimL s lot.items, atHt (leastF s b a) < m := fun m hm => by rw [e] at hm; exact rim_gt g hp hm
    cases hl : leastF s b a with
    | none =>
      rw [hl] at gt
      have : rimL s lot.items = [] := by
        refine List.eq_nil_iff_forall_not_mem.mpr fun m hm => ?_
        have h1 := gt m hm
        obtain ⟨r, hr, _, rfl⟩ := mem_rimL.mp hm
        have h2 := z.hi r hr
        have h3 : (9 : Int) < r.2.2 := h1
        omega
      rw [this]; rfl
    | some n =>
      rw [hl] at gt
      obtain ⟨m, hm, hle⟩ := rim_le g (S := lot.items) (by rw [e]; exact fun x hx => (mem_lotOf.mp hx).1) (find_least hl).1 hne
      have h0 : ∀ k ∈ rimL s lot.items, (n : Int) ≤ k := fun k hk => by
        have : (n : Int) - 1 < k := gt k hk
        omega
      have e2 : m = (n : Int) := Int.le_antisymm hle (h0 m hm)
      subst e2
      unfold minD
      rw [min_some hm h0]; rfl
/-! ### all sets of pools -/
theorem rev_ind {α : Type} {P : List α → Prop} (h0 : P []) (h1 : ∀ l a, P l → P (l ++ [a])) (l : List α) : P l := by
  have : ∀ r : List α, P r.reverse := fun r => by
    induction r with
    | nil => exact h0
    | cons a r ih => rw [List.reverse_cons]; exact h1 _ _ ih
  have h := this l.reverse
  rwa [List.reverse_reverse] at h
def setsF {α : Type} (ps : List α) : List (List α) := ps.foldl (fun acc p => acc ++ acc.map fun l => l ++ [p]) [[]]
theorem setsF_snoc {α : Type} (ps : List α) (p : α) : setsF (ps ++ [p]) = setsF ps ++ (setsF ps).map fun l => l ++ [p] := by
  unfold setsF
  rw [List.foldl_append]; rfl
theorem mem_setsF {α : Type} {ps : List α} : ∀ {l : List α}, l ∈ setsF ps ↔ l.Sublist ps := by
  refine rev_ind (P := fun ps => ∀ {l : List α}, l ∈ setsF ps ↔ l.Sublist ps) ?_ (fun ps p ih => ?_) ps
  · intro l; show l ∈ [[]] ↔ _; rw [List.mem_singleton, List.sublist_nil]
  · intro l
    rw [setsF_snoc, List.mem_append, List.mem_map, ih]
    constructor
    · rintro (h | ⟨l', h, rfl⟩)
      · exact h.trans (List.sublist_append_left _ _)
      · exact (ih.mp h).append (List.Sublist.refl _)
    · intro h
      obtain ⟨l1, l2, rfl, h1, h2⟩ := List.sublist_append_iff.mp h
      cases h2 with
      | cons _ h => rw [List.sublist_nil.mp h, List.append_nil]; exact .inl h1
      | cons_cons _ h => rw [List.sublist_nil.mp h]; exact .inr ⟨l1, ih.mpr h1, rfl⟩
theorem setsF_len {α : Type} (ps : List α) : (setsF ps).length = 2 ^ ps.length := by
  refine rev_ind (P := fun ps => (setsF ps).length = 2 ^ ps.length) rfl (fun ps p ih => ?_) ps
  rw [setsF_snoc, List.length_append, List.length_map, ih, List.length_append, List.length_singleton, Nat.pow_succ]; omega
theorem setsF_cons {α : Type} (ps : List α) : ∃ t, setsF ps = [] :: t ∧ ∀ l ∈ t, l ≠ [] := by
  refine rev_ind (P := fun ps => ∃ t, setsF ps = [] :: t ∧ ∀ l ∈ t, l ≠ []) ⟨[], rfl, fun l h => nomatch h⟩ (fun ps p ih => ?_) ps
  · obtain ⟨t, h1, h2⟩ := ih
    refine ⟨t ++ (setsF ps).map fun l => l ++ [p], by rw [setsF_snoc, h1]; rfl, fun l hl => ?_⟩
    rcases List.mem_append.mp hl with hl | hl
    · exact h2 l hl
    · obtain ⟨l', _, rfl⟩ := List.mem_map.mp hl
      exact fun e => by simp at e
def setsOf (ps : List Str) : List (List Str) := (setsF ps).drop 1
theorem mem_setsOf {ps : List Str} {l : List Str} : l ∈ setsOf ps ↔ l.Sublist ps ∧ l ≠ [] := by
  obtain ⟨t, h1, h2⟩ := setsF_cons ps
  have : setsOf ps = t := by unfold setsOf; rw [h1]; rfl
  rw [this, ← mem_setsF (ps := ps), h1, List.mem_cons]
  exact ⟨fun h => ⟨.inr h, h2 l h⟩, fun h => h.1.resolve_left h.2⟩
theorem setsOf_len {ps : List Str} (h : ps.length ≤ 6) : (setsOf ps).length ≤ 64 := by
  unfold setsOf
  rw [List.length_drop, setsF_len]
  have : 2 ^ ps.length ≤ 2 ^ 6 := Nat.pow_le_pow_right (by decide) h
  omega
theorem lot_set {s : Sh} (g : Good s) {h : Int} {p : Str} (hp : p ∈ s.1) : lotOf s h p ∈ setsOf s.1 := by
  refine mem_setsOf.mpr ⟨?_, fun e => ?_⟩
  · have : lotOf s h p = s.1.filter fun q => decide (q ∈ lotOf s h p) := by
      refine pw_ext (lotOf_up g) (g.up.filter _) fun x => ?_
      rw [List.mem_filter, decide_eq_true_eq]
      exact ⟨fun hx => ⟨(mem_lotOf.mp hx).1, hx⟩, fun hx => hx.2⟩
    rw [this]; exact List.filter_sublist
  · have := (mem_lotOf (s := s) (h := h) (p := p)).mpr ⟨hp, Conn.refl p⟩
    rw [e] at this; cases this
/-! ### what the rims of all that changed say -/
def rims (s : Sh) (b a : List Int) : List D := .int 0 :: ((setsOf s.1).filter fun S => !decide (inLot s.1 b S = inLot s.1 a S)).map fun S => minD (rimL s S)
theorem minD_cases (ns : List Int) : (ns = [] ∧ minD ns = .none) ∨ ∃ m, m ∈ ns ∧ (∀ k ∈ ns, m ≤ k) ∧ minD ns = .int m := by
  unfold minD
  cases h : ns.min? with
  | none => exact .inl ⟨List.min?_eq_none_iff.mp h, rfl⟩
  | some m => exact .inr ⟨m, (List.min?_eq_some_iff.mp h).1, (List.min?_eq_some_iff.mp h).2, rfl⟩
theorem rims_none {s : Sh} (g : Good s) (z : Hts s) {b a : List Int} (hb : b.length = s.1.length) (ha : a.length = s.1.length) (h : leastF s b a = none) : PyData.none ∈ rims s b a := by
  have ne : b ≠ a := fun e => by
    have := find_no h 0 (by decide)
    rw [e] at this
    have h2 : (changed s a a ((0 : Nat) : Int)).isEmpty = true := (changed_nil g).mpr fun _ _ => rfl
    rw [h2] at this; cases this
  obtain ⟨lot, r, _, ⟨p, hp, e⟩, hne, hm⟩ := lot_shows g z hb ha ne
  refine List.mem_cons_of_mem _ (List.mem_map.mpr ⟨lot.items, List.mem_filter.mpr ⟨by rw [e]; exact lot_set g hp, by simpa using hne⟩, ?_⟩)
  rw [hm, h]; rfl
theorem rims_some {s : Sh} (g : Good s) (z : Hts s) {b a : List Int} (hb : b.length = s.1.length) (ha : a.length = s.1.length) {n : Nat} (h : leastF s b a = some n) : ∃ ms : List Int, rims s b a = ms.map .int ∧ (n : Int) ∈ ms ∧ ∀ m ∈ ms, m ≤ (n : Int) := by
  have all : ∀ l : List (List Str), (∀ S ∈ l, (∀ p ∈ S, p ∈ s.1) ∧ inLot s.1 b S ≠ inLot s.1 a S) → ∃ ms : List Int, (l.map fun S => minD (rimL s S)) = ms.map .int ∧ (∀ m ∈ ms, m ≤ (n : Int)) ∧ ∀ S ∈ l, ∀ m, minD (rimL s S) = .int m → m ∈ ms := fun l => by
    induction l with
    | nil => exact fun _ => ⟨[], rfl, (fun _ h => by cases h), fun _ h => by cases h⟩
    | cons S l ih =>
      intro hl
      obtain ⟨ms, h1, h2, h3⟩ := ih fun S hS => hl S (List.mem_cons_of_mem _ hS)
      obtain ⟨hS, hne⟩ := hl S List.mem_cons_self
      obtain ⟨m0, hm0, hle⟩ := rim_le g hS (find_least h).1 hne
      rcases minD_cases (rimL s S) with ⟨e, _⟩ | ⟨m, hm, hlo, e⟩
      · rw [e] at hm0; cases hm0
      · refine ⟨m :: ms, by rw [List.map_cons, e, h1]; rfl, fun k hk => ?_, fun S' hS' k hk => ?_⟩
        · rcases List.mem_cons.mp hk with rfl | hk
          · exact Int.le_trans (hlo m0 hm0) hle
          · exact h2 k hk
        · rcases List.mem_cons.mp hS' with rfl | hS'
          · rw [e] at hk; cases hk; exact List.mem_cons_self
          · exact List.mem_cons_of_mem _ (h3 S' hS' k hk)
  obtain ⟨ms, h1, h2, h3⟩ := all ((setsOf s.1).filter fun S => !decide (inLot s.1 b S = inLot s.1 a S)) fun S hS => ⟨fun p hp => (mem_setsOf.mp (List.mem_filter.mp hS).1).1.subset hp, by simpa using (List.mem_filter.mp hS).2⟩
  refine ⟨0 :: ms, by unfold rims; rw [h1]; rfl, ?_, fun m hm => ?_⟩
  · cases n with
    | zero => exact List.mem_cons_self
    | succ n =>
      have ne : b ≠ a := fun e => by
        have := (find_least h).2.2 0 (Nat.zero_lt_succ n)
        rw [e] at this
        have h2 : (changed s a a ((0 : Nat) : Int)).isEmpty = true := (changed_nil g).mpr fun _ _ => rfl
        rw [h2] at this; cases this
      obtain ⟨lot, r, _, ⟨p, hp, e⟩, hne, hm⟩ := lot_shows g z hb ha ne
      refine List.mem_cons_of_mem _ (h3 lot.items (List.mem_filter.mpr ⟨by rw [e]; exact lot_set g hp, by simpa using hne⟩) _ ?_)
      rw [hm, h]; rfl
  · rcases List.mem_cons.mp hm with rfl | hm
    · omega
    · exact h2 m hm
end LP
/-! S7: one night: least heights, what changed, what shows it. -/
namespace LP
open PySem PySem.Spec PyProof.Rows L2 DL
noncomputable def withBoth (d b a : D) (f : Sh → List Int → List Int → Out) : Out := match bothErr d b a with | some n => .err n | none => f (shOf d) (cntOf b) (cntOf a)
structure NOk (s : Sh) (ns : List Int) : Prop where
  len : ns.length = s.1.length
  mem : ∀ n ∈ ns, 0 ≤ n ∧ n ≤ 9
theorem both_ok {d b a x : D} (hx : outOf (bothErr d b a) .none = .ok x) : ∃ s nb na, d = shT s ∧ b = intsD nb ∧ a = intsD na ∧ Good s ∧ NOk s nb ∧ NOk s na ∧ ∀ f, withBoth (shT s) (intsD nb) (intsD na) f = f s nb na := by
  cases hb : bothErr d b a with
  | some n => rw [hb] at hx; cases hx
  | none =>
    obtain ⟨h1, h2, h3⟩ := bothErr_none hb
    have e1 := (shOf_eq h1).1
    have e2 := counts_of h2
    have e3 := counts_of h3
    refine ⟨shOf d, cntOf b, cntOf a, e1.symm, e2.1, e3.1, (shOf_eq h1).2, ⟨e2.2.1, e2.2.2⟩, ⟨e3.2.1, e3.2.2⟩, fun f => ?_⟩
    rw [e1, ← e2.1, ← e3.1]
    unfold withBoth
    rw [hb]
theorem both_err {d b a : D} {n : Str} {f : Sh → List Int → List Int → Out} (hn : outOf (bothErr d b a) .none = .err n) : withBoth d b a f = .err n := by
  unfold withBoth
  cases hb : bothErr d b a with
  | some m => rw [hb] at hn; exact hn
  | none => rw [hb] at hn; cases hn
theorem withBoth_ok {s : Sh} {nb na : List Int} {f : Sh → List Int → List Int → Out} (h : isShoreD (shT s) = true) (hb : NOk s nb) (ha : NOk s na) : withBoth (shT s) (intsD nb) (intsD na) f = f s nb na := by
  have e : bothErr (shT s) (intsD nb) (intsD na) = none := by
    unfold bothErr
    rw [h, shOf_shT', if_pos rfl, counts_ok hb.len hb.mem, counts_ok ha.len ha.mem]; rfl
  unfold withBoth
  rw [e, shOf_shT', cntOf_ints, cntOf_ints]
def firstD : List TS → D | [] => .none | l :: _ => toD l
theorem firstD_eqv (l : List TS) : PyData.eqv (firstD l) (firstD l) = true ∧ (firstD l).plain = true ∧ (firstD l).depth ≤ 50 := by
  cases l with
  | nil => exact ⟨rfl, rfl, Nat.zero_le _⟩
  | cons a r =>
    refine ⟨?_, PySem.W.Datum.plain a, Nat.le_trans (PySem.W.Datum.depth_le a) (by decide)⟩
    show PyData.eqv (toD a) (toD a) = true
    rw [PySem.W.Datum.eqv]; simp
/-- [..][0] or None of data -/
theorem first_ret {α : Type} [DecidableEq α] [PySem.W.DatumOrd α] {X : Cx} {F : Fr0} {ρ : DL.Env} {N : DEnd} {k : Nat} {x : Str} {xs : List α} {fd : List α → D} {p1 p2 p3 p4 p5 p6 p7 p8 p9 : Pos} {n1 n2 : Nat} (h0 : fd [] = .none) (h1 : ∀ a r, fd (a :: r) = toD a) (hr : Room k X.A) (ha : DE X F.H0 ρ (.Name x p1) (.list (xs.map toD))) (hb : DE X F.H0 ρ (.Name x p4) (.list (xs.map toD)))
    (ret : N.rt ρ (fd xs)) : DS X F ρ [.Return (some (.IfExp (.Compare (.Name x p1) [.NotEq] [.List [] p2] p3) (.Subscript (.Name x p4) (.Constant (.int 0) n1 p5) p6) (.Constant .none n2 p7) p8)) p9] N := by
  refine ds_ret (de_ifS (d := fd xs) (neNil hr (pl_ty _) (de_r ha)) (fun h => ?_) fun h => ?_) ret
  all_goals
    cases xs with
    | nil =>
      first
        | (cases h; done)
        | (rw [h0]; exact de_non)
    | cons a r =>
      first
        | (cases h; done)
        | (rw [h1]; exact de_ixR atI_zero (de_r hb) de_int)
def isLotD (ps : List Str) : D → Bool | .tuple xs => !xs.isEmpty && xs.all (isPoolD ps) && riseD xs | _ => false
def lotOfD : D → List Str | .tuple xs => strsOf xs | _ => []
theorem pools_strs {ps : List Str} : ∀ {xs : List D}, xs.all (isPoolD ps) = true → xs = (strsOf xs).map .str ∧ ∀ p ∈ strsOf xs, p ∈ ps
  | [], _ => ⟨rfl, fun p h => by cases h⟩
  | x :: xs, h => by
    rw [List.all_cons, Bool.and_eq_true] at h
    obtain ⟨e, hm⟩ := pools_strs h.2
    cases x with
    | str z =>
      have hz : z ∈ ps := by simpa [isPoolD] using h.1
      have es : strsOf (.str z :: xs) = z :: strsOf xs := rfl
      refine ⟨by rw [es, List.map_cons, ← e], fun p hp => ?_⟩
      rw [es] at hp
      rcases List.mem_cons.mp hp with rfl | hp
      · exact hz
      · exact hm p hp
    | _ => cases h.1
theorem lot_form {ps : List Str} {d : D} (h : isLotD ps d = true) : d = strsD (lotOfD d) ∧ ∀ p ∈ lotOfD d, p ∈ ps := by
  cases d with
  | tuple xs =>
    simp only [isLotD, Bool.and_eq_true] at h
    obtain ⟨e, hm⟩ := pools_strs h.1.2
    exact ⟨congrArg PyData.tuple e, hm⟩
  | _ => cases h
/-- what can be asked: plain, not too long -/
def tameLot (d : D) : Prop := d.plain = true ∧ ∀ xs, d = .tuple xs → xs.length ≤ 1000
noncomputable abbrev lotForO (d b a : D) : Out := withBoth d b a fun s b a => if b = a then .err "Nothing" else match changed s b a (atHt (leastF s b a)) with | [] => .err "IndexError" | l :: _ => .ok (toD l)
section
variable {P : Program} {w : World} {K : PySem.W.Frag} {mg : Str → Option Value} {base : Heap}
abbrev spLeastN (K : PySem.W.Frag) (mg : Str → Option Value) : Sp := spD K mg (α := Sh × List Int × List Int) (fun a => [shT a.1, intsD a.2.1, intsD a.2.2]) (fun a => Good a.1) (fun a => .ok (optD (leastF a.1 a.2.1 a.2.2)))
abbrev spLeastH (K : PySem.W.Frag) (mg : Str → Option Value) : Sp := spD K mg (α := D × D × D) (fun a => [a.1, a.2.1, a.2.2]) (fun a => tameShore a.1) (fun a => withBoth a.1 a.2.1 a.2.2 fun s b a => .ok (optD (leastF s b a)))
abbrev spChLot (K : PySem.W.Frag) (mg : Str → Option Value) : Sp := spD K mg (α := D × D × D × D) (fun a => [a.1, a.2.1, a.2.2.1, a.2.2.2]) (fun a => tameShore a.1) (fun a => withBoth a.1 a.2.1 a.2.2.1 fun s b c => if isWholeD a.2.2.2 0 9 then .ok (firstD (changed s b c (intOf a.2.2.2))) else .err "BadHeight")
abbrev spIsLot (K : PySem.W.Frag) (mg : Str → Option Value) : Sp := spD K mg (α := (List Str × D) × D) (fun a => [shD a.1, a.2]) (fun a => tameLot a.2) (fun a => .ok (.bool (isLotD a.1.1 a.2)))
/-- (one in lot) != (other in lot) -/
theorem partT {X : Cx} {H0 : Bs} {ρ : DL.Env} {k : Nat} {e1 e2 l1 l2 : Expr} {a b : Str} {S : List Str} {p1 p2 p3 : Pos} (hr : Room k X.A) (h1 : DE X H0 ρ e1 (.str a)) (h2 : DE X H0 ρ e2 (.str b)) (hl1 : DE X H0 ρ l1 (strsD S)) (hl2 : DE X H0 ρ l2 (strsD S))
    (hm1 : behindInMarks .In l1 = false := by first | exact nomark _ | rfl) (hm2 : behindInMarks .In l2 = false := by first | exact nomark _ | rfl) (hm : behindInMarks .NotEq (.Compare e2 [.In] [l2] p2) = false := by first | exact nomark _ | rfl) :
    DT X H0 ρ (.Compare (.Compare e1 [.In] [l1] p1) [.NotEq] [.Compare e2 [.In] [l2] p2] p3) (!decide (decide (a ∈ S) = decide (b ∈ S))) :=
  have one : ∀ {e l : Expr} {z : Str} {p : Pos}, DE X H0 ρ e (.str z) → DE X H0 ρ l (strsD S) → behindInMarks .In l = false → DE X H0 ρ (.Compare e [.In] [l] p) (.bool (decide (z ∈ S))) := fun he hl hm => de_to (de_cmp (op_inP hr.units) (od_inP (plainAll_strs S) rfl (.inl (depthAll_strs S))) he hl hm) (by rw [if_neg Bool.false_ne_true, any_str])
  dt_to (dt_cmp (op_neP hr.units) (od_neP rfl rfl (.inl (Nat.zero_le _))) (one h1 hl1 hm1) (one h2 hl2 hm2) hm) (by rw [bool_eqv])
abbrev spRim (K : PySem.W.Frag) (mg : Str → Option Value) : Sp := spD K mg (α := Sh × List Str) (fun a => [shT a.1, strsD a.2]) (fun a => a.1.2.length ≤ 1000) (fun a => .ok (minD (rimL a.1 a.2)))
abbrev spShown (K : PySem.W.Frag) (mg : Str → Option Value) : Sp := spD K mg (α := D × D × D × D) (fun a => [a.1, a.2.1, a.2.2.1, a.2.2.2]) (fun a => tameShore a.1 ∧ tameLot a.2.2.2) (fun a => withBoth a.1 a.2.1 a.2.2.1 fun s b c => if isLotD s.1 a.2.2.2 && !decide (inLot s.1 b (lotOfD a.2.2.2) = inLot s.1 c (lotOfD a.2.2.2)) then .ok (minD (rimL s (lotOfD a.2.2.2))) else .err "BadLot")
abbrev spLotFor (K : PySem.W.Frag) (mg : Str → Option Value) : Sp := spD K mg (α := D × D × D) (fun a => [a.1, a.2.1, a.2.2]) (fun a => tameShore a.1 ∧ ∀ s b c, a = (shT s, intsD b, intsD c) → Hts s) (fun a => lotForO a.1 a.2.1 a.2.2)
theorem eqv_ints (b a : List Int) : PyData.eqv (intsD b) (intsD a) = decide (b = a) := by
  have h : PyData.eqv (toD (⟨b⟩ : PySem.W.Tup Int)) (toD (⟨a⟩ : PySem.W.Tup Int)) = decide ((⟨b⟩ : PySem.W.Tup Int) = ⟨a⟩) := PySem.W.Datum.eqv _ _
  rw [show PyData.eqv (intsD b) (intsD a) = _ from h]
  by_cases e : b = a
  · rw [decide_eq_true e, decide_eq_true (by rw [e])]
  · rw [decide_eq_false e, decide_eq_false fun q => e (PySem.W.Tup.mk.inj q)]
theorem ints_depth (b : List Int) : (intsD b).depth ≤ 50 := Nat.le_trans (PySem.W.Datum.depth_le (α := PySem.W.Tup Int) ⟨b⟩) (by decide)
end
end LP
/-! P7: plain: numbers within bounds; rows that keep them; sets sorted. -/
namespace LP
open PySem PySem.Spec PyProof.Rows L2 DL
abbrev Bd := List (Int × Int)
def lows (b : Bd) : List Int := b.map (·.1)
def highs (b : Bd) : List Int := b.map (·.2)
/-- barred, as the program asks -/
def barB (s : Sh) (b a : Bd) (S : List Str) : Bool := decide ((if inLot s.1 (highs a) S < inLot s.1 (highs b) S then inLot s.1 (highs a) S else inLot s.1 (highs b) S) < (if inLot s.1 (lows a) S > inLot s.1 (lows b) S then inLot s.1 (lows a) S else inLot s.1 (lows b) S))
noncomputable def barred (s : Sh) (b a : Bd) (h : Int) : List TS := (allLots s h).filter fun l => barB s b a l.items
noncomputable def leastB (s : Sh) (b a : Bd) : Option Nat := (List.range 10).find? fun k => (barred s b a (k : Int)).isEmpty
structure BdOk (s : Sh) (b : Bd) : Prop where
  len : b.length = s.1.length
  mem : ∀ z ∈ b, 0 ≤ z.1 ∧ z.1 ≤ z.2 ∧ z.2 ≤ 9
/-- a row within bounds -/
def inB : List Int → Bd → Prop
  | [], [] => True
  | x :: xs, z :: zs => (z.1 ≤ x ∧ x ≤ z.2) ∧ inB xs zs
  | _, _ => False
/-- the numbers of the places of class l -/
def sumC (c : Str → List Str) : List Str → List Int → List Str → Int
  | p :: ps, n :: ns, l => (if c p = l then n else 0) + sumC c ps ns l
  | _, _, _ => 0
theorem sumC_nil (c : Str → List Str) (ns : List Int) (l : List Str) : sumC c [] ns l = 0 := by cases ns <;> rfl
theorem sumC_btw {c : Str → List Str} {l : List Str} : ∀ {ps : List Str} {x : List Int} {b : Bd}, inB x b → sumC c ps (lows b) l ≤ sumC c ps x l ∧ sumC c ps x l ≤ sumC c ps (highs b) l
  | [], _, _, _ => by rw [sumC_nil, sumC_nil, sumC_nil]; exact ⟨Int.le_refl _, Int.le_refl _⟩
  | _ :: _, [], [], _ => ⟨Int.le_refl _, Int.le_refl _⟩
  | p :: ps, x :: xs, z :: zs, h => by
    have ih := sumC_btw (c := c) (l := l) (ps := ps) h.2
    have h1 := h.1
    show (if c p = l then z.1 else 0) + sumC c ps (lows zs) l ≤ (if c p = l then x else 0) + sumC c ps xs l ∧ (if c p = l then x else 0) + sumC c ps xs l ≤ (if c p = l then z.2 else 0) + sumC c ps (highs zs) l
    split <;> omega
theorem sumC_le {c : Str → List Str} {l : List Str} : ∀ {ps : List Str} {b : Bd}, (∀ z ∈ b, z.1 ≤ z.2) → sumC c ps (lows b) l ≤ sumC c ps (highs b) l
  | [], _, _ => by rw [sumC_nil, sumC_nil]; exact Int.le_refl _
  | _ :: _, [], _ => Int.le_refl _
  | p :: ps, z :: zs, h => by
    have ih := sumC_le (c := c) (l := l) (ps := ps) (b := zs) fun z hz => h z (List.mem_cons_of_mem _ hz)
    have h1 := h z List.mem_cons_self
    show (if c p = l then z.1 else 0) + sumC c ps (lows zs) l ≤ (if c p = l then z.2 else 0) + sumC c ps (highs zs) l
    split <;> omega
/-- any numbers of the classes that the bounds let be are a row's -/
theorem fill (c : Str → List Str) : ∀ (ps : List Str) (b : Bd) (t : List Str → Int), ps.length = b.length → (∀ z ∈ b, z.1 ≤ z.2) → (∀ l, sumC c ps (lows b) l ≤ t l ∧ t l ≤ sumC c ps (highs b) l) → ∃ x, inB x b ∧ ∀ l, sumC c ps x l = t l
  | [], [], t, _, _, h => ⟨[], trivial, fun l => by
    have := h l
    rw [sumC_nil, sumC_nil] at this
    rw [sumC_nil]; omega⟩
  | p :: ps, z :: b, t, hl, hz, h => by
    have hz1 := hz z List.mem_cons_self
    have hz2 : ∀ z ∈ b, z.1 ≤ z.2 := fun z h => hz z (List.mem_cons_of_mem _ h)
    have h0 : z.1 + sumC c ps (lows b) (c p) ≤ t (c p) ∧ t (c p) ≤ z.2 + sumC c ps (highs b) (c p) := by
      have := h (c p)
      change (if c p = c p then z.1 else 0) + sumC c ps (lows b) (c p) ≤ t (c p) ∧ t (c p) ≤ (if c p = c p then z.2 else 0) + sumC c ps (highs b) (c p) at this
      rw [if_pos rfl, if_pos rfl] at this
      exact this
    have hm := sumC_le (c := c) (l := c p) (ps := ps) hz2
    obtain ⟨x0, hx⟩ : ∃ x0 : Int, (z.1 ≤ x0 ∧ x0 ≤ z.2) ∧ sumC c ps (lows b) (c p) ≤ t (c p) - x0 ∧ t (c p) - x0 ≤ sumC c ps (highs b) (c p) := by
      by_cases q : z.1 ≤ t (c p) - sumC c ps (highs b) (c p)
      · exact ⟨t (c p) - sumC c ps (highs b) (c p), by omega⟩
      · exact ⟨z.1, by omega⟩
    obtain ⟨x, hx1, hx2⟩ := fill c ps b (fun l => if c p = l then t l - x0 else t l) (by simpa using hl) hz2 fun l => by
      by_cases e : c p = l
      · subst e
        rw [if_pos rfl]
        exact hx.2
      · have := h l
        change (if c p = l then z.1 else 0) + sumC c ps (lows b) l ≤ t l ∧ t l ≤ (if c p = l then z.2 else 0) + sumC c ps (highs b) l at this
        rw [if_neg e, if_neg e] at this
        rw [if_neg e]; omega
    refine ⟨x0 :: x, ⟨hx.1, hx1⟩, fun l => ?_⟩
    show (if c p = l then x0 else 0) + sumC c ps x l = t l
    rw [hx2]
    by_cases e : c p = l
    · rw [if_pos e, if_pos e]; omega
    · rw [if_neg e, if_neg e]; omega
theorem inLot_sumC {s : Sh} {h : Int} {p : Str} (hp : p ∈ s.1) : ∀ {ps : List Str} {ns : List Int}, (∀ q ∈ ps, q ∈ s.1) → inLot ps ns (lotOf s h p) = sumC (lotOf s h) ps ns (lotOf s h p)
  | [], ns, _ => by rw [sumC_nil]; rfl
  | _ :: _, [], _ => inLot_nil2 _ _
  | q :: ps, n :: ns, h1 => by
    rw [inLot_cons, inLot_sumC hp fun q hq => h1 q (List.mem_cons_of_mem _ hq)]
    show _ = (if lotOf s h q = lotOf s h p then n else 0) + _
    congr 1
    have hq := h1 q List.mem_cons_self
    by_cases e : q ∈ lotOf s h p
    · rw [if_pos e, if_pos (lotOf_eq (mem_lotOf.mp e).2).symm]
    · rw [if_neg e, if_neg fun (z : lotOf s h q = lotOf s h p) => e (z ▸ mem_lotOf.mpr ⟨hq, .refl q⟩)]
theorem sumC_none {c : Str → List Str} {l : List Str} : ∀ {ps : List Str} {ns : List Int}, (∀ p ∈ ps, c p ≠ l) → sumC c ps ns l = 0
  | [], _, _ => sumC_nil _ _ _
  | _ :: _, [], _ => rfl
  | p :: ps, n :: ns, h => by
    show (if c p = l then n else 0) + _ = 0
    rw [if_neg (h p List.mem_cons_self), sumC_none fun q hq => h q (List.mem_cons_of_mem _ hq)]; rfl
theorem barB_no {s : Sh} {b a : Bd} {S : List Str} : barB s b a S = false ↔ (inLot s.1 (lows b) S ≤ inLot s.1 (highs a) S ∧ inLot s.1 (lows a) S ≤ inLot s.1 (highs b) S ∧ inLot s.1 (lows b) S ≤ inLot s.1 (highs b) S ∧ inLot s.1 (lows a) S ≤ inLot s.1 (highs a) S) := by
  unfold barB
  rw [decide_eq_false_iff_not]
  split <;> split <;> omega
section
variable {s : Sh} {b a : Bd} {h : Int}
theorem lot_btw {p : Str} (hp : p ∈ s.1) {x : List Int} (hx : inB x b) : inLot s.1 (lows b) (lotOf s h p) ≤ inLot s.1 x (lotOf s h p) ∧ inLot s.1 x (lotOf s h p) ≤ inLot s.1 (highs b) (lotOf s h p) := by
  rw [inLot_sumC hp fun _ h => h, inLot_sumC hp fun _ h => h, inLot_sumC hp fun _ h => h]
  exact sumC_btw hx
theorem meet_lot (hb : BdOk s b) (ha : BdOk s a) {p : Str} (hp : p ∈ s.1) : barB s b a (lotOf s h p) = false ↔ ∃ x y, inB x b ∧ inB y a ∧ inLot s.1 x (lotOf s h p) = inLot s.1 y (lotOf s h p) := by
  rw [barB_no]
  constructor
  · intro q
    have key : ∀ {d : Bd}, BdOk s d → ∀ t, inLot s.1 (lows d) (lotOf s h p) ≤ t → t ≤ inLot s.1 (highs d) (lotOf s h p) → ∃ x, inB x d ∧ inLot s.1 x (lotOf s h p) = t := fun {d} hd t h1 h2 => by
      rw [inLot_sumC hp fun _ h => h] at h1 h2
      obtain ⟨x, hx, e⟩ := fill (lotOf s h) s.1 d (fun l => if l = lotOf s h p then t else sumC (lotOf s h) s.1 (lows d) l) hd.len.symm (fun z hz => (hd.mem z hz).2.1) fun l => by
        by_cases e : l = lotOf s h p
        · rw [if_pos e, e]; exact ⟨h1, h2⟩
        · rw [if_neg e]; exact ⟨Int.le_refl _, sumC_le fun z hz => (hd.mem z hz).2.1⟩
      exact ⟨x, hx, by rw [inLot_sumC hp fun _ h => h, e, if_pos rfl]⟩
    obtain ⟨t, ht⟩ : ∃ t, inLot s.1 (lows b) (lotOf s h p) ≤ t ∧ t ≤ inLot s.1 (highs b) (lotOf s h p) ∧ inLot s.1 (lows a) (lotOf s h p) ≤ t ∧ t ≤ inLot s.1 (highs a) (lotOf s h p) := by
      by_cases c : inLot s.1 (lows b) (lotOf s h p) ≤ inLot s.1 (lows a) (lotOf s h p)
      · exact ⟨inLot s.1 (lows a) (lotOf s h p), by omega⟩
      · exact ⟨inLot s.1 (lows b) (lotOf s h p), by omega⟩
    obtain ⟨x, hx, e1⟩ := key hb t ht.1 ht.2.1
    obtain ⟨y, hy, e2⟩ := key ha t ht.2.2.1 ht.2.2.2
    exact ⟨x, y, hx, hy, e1.trans e2.symm⟩
  · rintro ⟨x, y, hx, hy, e⟩
    have h1 := lot_btw (h := h) hp hx
    have h2 := lot_btw (h := h) hp hy
    omega
theorem barred_nil (g : Good s) : (barred s b a h).isEmpty = true ↔ ∀ p ∈ s.1, barB s b a (lotOf s h p) = false := by
  unfold barred
  rw [List.isEmpty_iff, List.filter_eq_nil_iff]
  constructor
  · intro q p hp
    have := q ⟨lotOf s h p⟩ ((mem_allLots g).mpr ⟨p, hp, rfl⟩)
    rwa [Bool.not_eq_true] at this
  · intro q l hl
    obtain ⟨p, hp, rfl⟩ := (mem_allLots g).mp hl
    rw [q p hp]; exact Bool.false_ne_true
theorem meet_all (g : Good s) (hb : BdOk s b) (ha : BdOk s a) : (barred s b a h).isEmpty = true ↔ ∃ x y, inB x b ∧ inB y a ∧ (changed s x y h).isEmpty = true := by
  rw [barred_nil g]
  constructor
  · intro q
    have key : ∀ {d : Bd}, BdOk s d → (∀ p ∈ s.1, inLot s.1 (lows d) (lotOf s h p) ≤ max (inLot s.1 (lows b) (lotOf s h p)) (inLot s.1 (lows a) (lotOf s h p)) ∧ max (inLot s.1 (lows b) (lotOf s h p)) (inLot s.1 (lows a) (lotOf s h p)) ≤ inLot s.1 (highs d) (lotOf s h p)) → ∃ x, inB x d ∧ ∀ p ∈ s.1, inLot s.1 x (lotOf s h p) = max (inLot s.1 (lows b) (lotOf s h p)) (inLot s.1 (lows a) (lotOf s h p)) := fun {d} hd hq => by
      obtain ⟨x, hx, e⟩ := fill (lotOf s h) s.1 d (fun l => max (sumC (lotOf s h) s.1 (lows b) l) (sumC (lotOf s h) s.1 (lows a) l)) hd.len.symm (fun z hz => (hd.mem z hz).2.1) fun l => by
        by_cases c : ∃ p ∈ s.1, lotOf s h p = l
        · obtain ⟨p, hp, rfl⟩ := c
          have := hq p hp
          rw [inLot_sumC hp fun _ h => h, inLot_sumC hp fun _ h => h, inLot_sumC hp fun _ h => h, inLot_sumC hp fun _ h => h] at this
          exact this
        · have z : ∀ ns, sumC (lotOf s h) s.1 ns l = 0 := fun ns => sumC_none fun p hp e => c ⟨p, hp, e⟩
          rw [z, z, z, z]; decide
      refine ⟨x, hx, fun p hp => ?_⟩
      rw [inLot_sumC hp fun _ h => h, e, inLot_sumC hp fun _ h => h, inLot_sumC hp fun _ h => h]
    obtain ⟨x, hx, e1⟩ := key hb fun p hp => by have := barB_no.mp (q p hp); omega
    obtain ⟨y, hy, e2⟩ := key ha fun p hp => by have := barB_no.mp (q p hp); omega
    exact ⟨x, y, hx, hy, (changed_nil g).mpr fun p hp => (e1 p hp).trans (e2 p hp).symm⟩
  · rintro ⟨x, y, hx, hy, q⟩ p hp
    exact (meet_lot hb ha hp).mpr ⟨x, y, hx, hy, (changed_nil g).mp q p hp⟩
theorem barred_mono (g : Good s) (hb : BdOk s b) (ha : BdOk s a) {h' : Int} (hh : h ≤ h') (q : (barred s b a h).isEmpty = true) : (barred s b a h').isEmpty = true := by
  obtain ⟨x, y, hx, hy, e⟩ := (meet_all g hb ha).mp q
  exact (meet_all g hb ha).mpr ⟨x, y, hx, hy, follows_mono g hh e⟩
/-- exact numbers as bounds -/
def exact (ns : List Int) : Bd := ns.map fun n => (n, n)
theorem barB_exact {x y : List Int} {S : List Str} : barB s (exact x) (exact y) S = !decide (inLot s.1 x S = inLot s.1 y S) := by
  have e1 : ∀ ns, lows (exact ns) = ns := fun ns => by unfold lows exact; rw [List.map_map]; exact List.map_id ns
  have e2 : ∀ ns, highs (exact ns) = ns := fun ns => by unfold highs exact; rw [List.map_map]; exact List.map_id ns
  unfold barB
  rw [e1, e1, e2, e2, Bool.eq_iff_iff, decide_eq_true_eq, Bool.not_eq_true', decide_eq_false_iff_not]
  split <;> split <;> omega
theorem leastB_exact {x y : List Int} : leastB s (exact x) (exact y) = leastF s x y := by
  unfold leastB leastF
  congr 1
  funext k
  unfold barred changed
  congr 2
  funext l
  exact barB_exact
end
/-! ### all rows -/
def rowsF (b : Bd) : List (List Int) := b.foldl (fun acc z => acc.flatMap fun row => (List.range (z.2 - z.1 + 1).toNat).map fun i : Nat => row ++ [z.1 + (i : Int)]) [[]]
theorem rowsF_snoc (b : Bd) (z : Int × Int) : rowsF (b ++ [z]) = (rowsF b).flatMap fun row => (List.range (z.2 - z.1 + 1).toNat).map fun i : Nat => row ++ [z.1 + (i : Int)] := by
  unfold rowsF
  rw [List.foldl_append]; rfl
theorem inB_snoc : ∀ {b : Bd} {z : Int × Int} {x : List Int}, inB x (b ++ [z]) ↔ ∃ y m, x = y ++ [m] ∧ inB y b ∧ z.1 ≤ m ∧ m ≤ z.2
  | [], z, x => by
    constructor
    · intro h
      match x, h with
      | [m], h => exact ⟨[], m, rfl, trivial, h.1⟩
    · rintro ⟨y, m, rfl, h1, h2⟩
      match y, h1 with
      | [], _ => exact ⟨h2, trivial⟩
  | w :: b, z, x => by
    constructor
    · intro h
      match x, h with
      | k :: x, h =>
        obtain ⟨y, m, rfl, h1, h2⟩ := inB_snoc.mp h.2
        exact ⟨k :: y, m, rfl, ⟨h.1, h1⟩, h2⟩
    · rintro ⟨y, m, rfl, h1, h2⟩
      match y, h1 with
      | k :: y, h1 => exact ⟨h1.1, inB_snoc.mpr ⟨y, m, rfl, h1.2, h2⟩⟩
theorem mem_rowsF {b : Bd} : ∀ {x : List Int}, x ∈ rowsF b ↔ inB x b := by
  refine rev_ind (P := fun b => ∀ {x : List Int}, x ∈ rowsF b ↔ inB x b) ?_ (fun b z ih => ?_) b
  · intro x
    show x ∈ [[]] ↔ _
    rw [List.mem_singleton]
    cases x with
    | nil => exact ⟨fun _ => trivial, fun _ => rfl⟩
    | cons a r => exact ⟨(fun h => by cases h), fun h => h.elim⟩
  · intro x
    rw [rowsF_snoc, List.mem_flatMap, inB_snoc]
    constructor
    · rintro ⟨y, hy, hx⟩
      obtain ⟨i, hi, rfl⟩ := List.mem_map.mp hx
      have := List.mem_range.mp hi
      exact ⟨y, _, rfl, ih.mp hy, by omega, by omega⟩
    · rintro ⟨y, m, rfl, hy, h1, h2⟩
      refine ⟨y, ih.mpr hy, List.mem_map.mpr ⟨(m - z.1).toNat, List.mem_range.mpr (by omega), ?_⟩⟩
      congr 2; omega
theorem inB_len : ∀ {x : List Int} {b : Bd}, inB x b → x.length = b.length
  | [], [], _ => rfl
  | _ :: _, _ :: _, h => by rw [List.length_cons, List.length_cons, inB_len h.2]
theorem inB_mem : ∀ {x : List Int} {b : Bd} {M : Int}, inB x b → (∀ z ∈ b, 0 ≤ z.1 ∧ z.2 ≤ M) → ∀ n ∈ x, 0 ≤ n ∧ n ≤ M
  | [], [], _, _, _, n, hn => by cases hn
  | x :: xs, z :: zs, M, h, hz, n, hn => by
    rcases List.mem_cons.mp hn with rfl | hn
    · have := hz z List.mem_cons_self
      have := h.1
      omega
    · exact inB_mem h.2 (fun z h => hz z (List.mem_cons_of_mem _ h)) n hn
theorem rowsF_len {b : Bd} : (∀ z ∈ b, z.2 - z.1 ≤ 2) → (rowsF b).length ≤ 3 ^ b.length := by
  refine rev_ind (P := fun b => (∀ z ∈ b, z.2 - z.1 ≤ 2) → (rowsF b).length ≤ 3 ^ b.length) (fun _ => Nat.le_refl _) (fun b z ih h => ?_) b
  rw [rowsF_snoc, List.length_append, List.length_singleton, Nat.pow_succ]
  have h1 := ih fun z hz => h z (List.mem_append_left _ hz)
  have h2 := h z (List.mem_append_right _ List.mem_cons_self)
  refine Nat.le_trans (m := (rowsF b).length * 3) ?_ (Nat.mul_le_mul_right 3 h1)
  generalize rowsF b = l
  induction l with
  | nil => exact Nat.zero_le _
  | cons x r ih => rw [List.flatMap_cons, List.length_append, List.length_map, List.length_range, List.length_cons]; omega
theorem inLot_bound {M : Int} (hM : 0 ≤ M) : ∀ {ps : List Str} {ns : List Int} {S : List Str}, (∀ n ∈ ns, 0 ≤ n ∧ n ≤ M) → 0 ≤ inLot ps ns S ∧ inLot ps ns S ≤ M * ps.length
  | [], _, _, _ => ⟨Int.le_refl _, by show (0 : Int) ≤ M * 0; rw [Int.mul_zero]; exact Int.le_refl _⟩
  | p :: ps, [], S, _ => by
    rw [inLot_nil2]
    exact ⟨Int.le_refl _, Int.mul_nonneg hM (Int.natCast_nonneg _)⟩
  | p :: ps, n :: ns, S, h => by
    have ih := inLot_bound hM (ps := ps) (S := S) fun n hn => h n (List.mem_cons_of_mem _ hn)
    have h0 := h n List.mem_cons_self
    rw [inLot_cons, List.length_cons, Int.natCast_add, Int.mul_add]
    split <;> omega
/-! ### sets sorted -/
section
variable {α : Type} [DecidableEq α]
def dedup : List α → List α
  | [] => []
  | a :: r => if a ∈ r then dedup r else a :: dedup r
theorem mem_dedup {a : α} : ∀ {l : List α}, a ∈ dedup l ↔ a ∈ l
  | [] => Iff.rfl
  | b :: r => by
    unfold dedup
    split
    · rw [mem_dedup, List.mem_cons]
      exact ⟨.inr, fun h => h.elim (fun e => by rw [e]; assumption) id⟩
    · rw [List.mem_cons, List.mem_cons, mem_dedup]
theorem nodup_dedup : ∀ {l : List α}, (dedup l).Nodup
  | [] => List.nodup_nil
  | b :: r => by
    unfold dedup
    split
    · exact nodup_dedup
    · rw [List.nodup_cons]
      exact ⟨fun h => by rename_i q; exact q (mem_dedup.mp h), nodup_dedup⟩
variable [PySem.W.DatumOrd α]
def usort (l : List α) : List α := tsort (dedup l)
theorem mem_usort {l : List α} {a : α} : a ∈ usort l ↔ a ∈ l := by unfold usort; rw [tsort_mem, mem_dedup]
theorem usort_up (l : List α) : (usort l).Pairwise fun a b => tlt a b = true := tsort_strict nodup_dedup
end
/-- increasing ints: what a set of ints tells -/
def isort (l : List Int) : List Int := (dedup l).mergeSort (fun a b => decide (a ≤ b))
theorem mem_isort {l : List Int} {a : Int} : a ∈ isort l ↔ a ∈ l := by unfold isort; rw [List.mem_mergeSort, mem_dedup]
theorem isort_up (l : List Int) : (isort l).Pairwise (· < ·) := by
  have h1 : (isort l).Pairwise fun a b => decide (a ≤ b) = true := List.pairwise_mergeSort (fun a b c h1 h2 => by simp only [decide_eq_true_eq] at *; omega) (fun a b => by simp only [Bool.or_eq_true, decide_eq_true_eq]; omega) _
  have h2 : (isort l).Nodup := (List.mergeSort_perm _ _).nodup_iff.mpr nodup_dedup
  exact (h1.and h2).imp fun {a b} ⟨p, q⟩ => by rw [decide_eq_true_eq] at p; omega
end LP
/-! P8: plain: shores with a ridge more, less, lower; least sets of ridges. -/
namespace LP
open PySem PySem.Spec PyProof.Rows L2 DL
/-! ### what is joined -/
theorem conn_of {s t : Sh} {h h' : Int} (hc : ∀ a b c, (a, b, c) ∈ s.2 → c ≤ h → ∃ c', (a, b, c') ∈ t.2 ∧ c' ≤ h') {x y : Str} (c : Conn s h x y) : Conn t h' x y := by
  induction c with
  | refl => exact .refl x
  | fwd _ hm hh ih => obtain ⟨c', h1, h2⟩ := hc _ _ _ hm hh; exact .fwd ih h1 h2
  | bwd _ hm hh ih => obtain ⟨c', h1, h2⟩ := hc _ _ _ hm hh; exact .bwd ih h1 h2
noncomputable abbrev FolS (s : Sh) (b a : List Int) (h : Int) : Bool := (changed s b a h).isEmpty
theorem follows_join {s t : Sh} (g : Good s) (g2 : Good t) (e : s.1 = t.1) {b a : List Int} {h h' : Int} (hc : ∀ x y, Conn s h x y → Conn t h' x y) (q : FolS s b a h = true) : FolS t b a h' = true := by
  rw [changed_nil g] at q
  refine (changed_nil g2).mpr fun p hp => ?_
  rw [← e] at hp ⊢
  refine shut_same (h := h) g q (lotOf t h' p).length _ (Nat.le_refl _) (fun x hx => by rw [e]; exact (mem_lotOf.mp hx).1) fun x y hx c => ?_
  rw [mem_lotOf] at hx ⊢
  exact ⟨(hc x y c).mem g2 hx.1, hx.2.trans (hc x y c)⟩
theorem follows_same {s t : Sh} (g : Good s) (g2 : Good t) (e : s.1 = t.1) {b a : List Int} {h h' : Int} (h1 : ∀ x y, Conn s h x y → Conn t h' x y) (h2 : ∀ x y, Conn t h' x y → Conn s h x y) : FolS s b a h = FolS t b a h' := by
  rw [Bool.eq_iff_iff]
  exact ⟨follows_join g g2 e h1, follows_join g2 g e.symm h2⟩
def lowS (s : Sh) (ns : List Int) : Sh := (s.1, s.2.zipIdx.map fun z => (z.1.1, z.1.2.1, if ((z.2 : Nat) : Int) ∈ ns then 0 else z.1.2.2))
def woS (s : Sh) (n : Nat) : Sh := (s.1, s.2.take n ++ s.2.drop (n + 1))
def setR (s : Sh) (n : Nat) (h : Int) : Sh := (s.1, s.2.mapIdx fun i r => if i = n then (r.1, r.2.1, h) else r)
theorem mem_low {s : Sh} {ns : List Int} {r : Rg} : r ∈ (lowS s ns).2 ↔ ∃ i q, s.2[i]? = some q ∧ r = (q.1, q.2.1, if ((i : Nat) : Int) ∈ ns then 0 else q.2.2) := by
  show r ∈ s.2.zipIdx.map _ ↔ _
  rw [List.mem_map]
  constructor
  · rintro ⟨⟨q, i⟩, hz, rfl⟩
    exact ⟨i, q, List.mk_mem_zipIdx_iff_getElem?.mp hz, rfl⟩
  · rintro ⟨i, q, hq, rfl⟩
    exact ⟨(q, i), List.mk_mem_zipIdx_iff_getElem?.mpr hq, rfl⟩
theorem mem_wo {s : Sh} {n : Nat} {r : Rg} : r ∈ (woS s n).2 ↔ ∃ i, i ≠ n ∧ s.2[i]? = some r := by
  show r ∈ s.2.take n ++ s.2.drop (n + 1) ↔ _
  rw [List.mem_append, List.mem_take_iff_getElem, List.mem_drop_iff_getElem]
  constructor
  · rintro (⟨i, hi, e⟩ | ⟨i, hi, e⟩)
    · exact ⟨i, by omega, List.getElem?_eq_some_iff.mpr ⟨by omega, e⟩⟩
    · exact ⟨n + 1 + i, by omega, List.getElem?_eq_some_iff.mpr ⟨by omega, e⟩⟩
  · rintro ⟨i, hi, e⟩
    obtain ⟨hl, e⟩ := List.getElem?_eq_some_iff.mp e
    by_cases q : i < n
    · exact .inl ⟨i, by omega, e⟩
    · exact .inr ⟨i - (n + 1), by omega, by simp only [show n + 1 + (i - (n + 1)) = i by omega]; exact e⟩
theorem mem_set {s : Sh} {n : Nat} {h : Int} {r : Rg} : r ∈ (setR s n h).2 ↔ ∃ i q, s.2[i]? = some q ∧ r = if i = n then (q.1, q.2.1, h) else q := by
  show r ∈ s.2.mapIdx _ ↔ _
  rw [List.mem_mapIdx]
  constructor
  · rintro ⟨i, hi, rfl⟩
    exact ⟨i, s.2[i], List.getElem?_eq_getElem hi, rfl⟩
  · rintro ⟨i, q, hq, rfl⟩
    obtain ⟨hl, rfl⟩ := List.getElem?_eq_some_iff.mp hq
    exact ⟨i, hl, rfl⟩
theorem good_of {s t : Sh} (g : Good s) (e : t.1 = s.1) (hl : t.2.length ≤ 10) (h : ∀ r ∈ t.2, ∃ q ∈ s.2, r.1 = q.1 ∧ r.2.1 = q.2.1) : Good t := by
  refine ⟨by rw [e]; exact g.two, by rw [e]; exact g.six, by rw [e]; exact g.up, hl, fun r hr => ?_⟩
  obtain ⟨q, hq, e1, e2⟩ := h r hr
  rw [e, e1, e2]
  exact g.ends q hq
theorem good_low {s : Sh} (g : Good s) (ns : List Int) : Good (lowS s ns) := good_of g rfl (by show (s.2.zipIdx.map _).length ≤ 10; rw [List.length_map, List.length_zipIdx]; exact g.ten) fun r hr => by
  obtain ⟨i, q, hq, rfl⟩ := mem_low.mp hr
  exact ⟨q, List.mem_of_getElem? hq, rfl, rfl⟩
theorem good_wo {s : Sh} (g : Good s) (n : Nat) : Good (woS s n) := good_of g rfl (by
  have := g.ten
  show (s.2.take n ++ s.2.drop (n + 1)).length ≤ 10
  rw [List.length_append, List.length_take, List.length_drop]; omega) fun r hr => by
  obtain ⟨i, _, hq⟩ := mem_wo.mp hr
  exact ⟨r, List.mem_of_getElem? hq, rfl, rfl⟩
theorem good_set {s : Sh} (g : Good s) (n : Nat) (h : Int) : Good (setR s n h) := good_of g rfl (by show (s.2.mapIdx _).length ≤ 10; rw [List.length_mapIdx]; exact g.ten) fun r hr => by
  obtain ⟨i, q, hq, rfl⟩ := mem_set.mp hr
  refine ⟨q, List.mem_of_getElem? hq, ?_⟩
  split <;> exact ⟨rfl, rfl⟩
section
variable {s : Sh} {b a : List Int} {h k : Int} {n : Nat}
theorem set_low (g : Good s) (h0 : 0 ≤ h) (hk : k ≤ h) : FolS (setR s n k) b a h = FolS (lowS s [(n : Int)]) b a h := by
  refine follows_same (good_set g n k) (good_low g _) rfl (fun x y => conn_of fun p q c hm hc => ?_) fun x y => conn_of fun p q c hm hc => ?_
  · obtain ⟨i, r, hr, e⟩ := mem_set.mp hm
    refine ⟨if ((i : Nat) : Int) ∈ [(n : Int)] then 0 else r.2.2, mem_low.mpr ⟨i, r, hr, ?_⟩, ?_⟩
    · split at e <;> (cases e; rfl)
    · split
      · exact h0
      · rename_i hi
        rw [if_neg (by intro z; exact hi (by rw [z]; exact List.mem_cons_self))] at e
        rw [← e]; exact hc
  · obtain ⟨i, r, hr, e⟩ := mem_low.mp hm
    by_cases hi : i = n
    · refine ⟨k, mem_set.mpr ⟨i, r, hr, ?_⟩, hk⟩
      rw [if_pos hi]; cases e; rfl
    · rw [if_neg (fun z => hi (by have := List.mem_singleton.mp z; omega))] at e
      refine ⟨c, mem_set.mpr ⟨i, r, hr, ?_⟩, hc⟩
      rw [if_neg hi, e]
theorem set_wo (g : Good s) (hk : h < k) : FolS (setR s n k) b a h = FolS (woS s n) b a h := by
  refine follows_same (good_set g n k) (good_wo g n) rfl (fun x y => conn_of fun p q c hm hc => ?_) fun x y => conn_of fun p q c hm hc => ?_
  · obtain ⟨i, r, hr, e⟩ := mem_set.mp hm
    by_cases hi : i = n
    · rw [if_pos hi] at e
      cases e
      omega
    · rw [if_neg hi] at e
      exact ⟨c, mem_wo.mpr ⟨i, hi, by rw [e]; exact hr⟩, hc⟩
  · obtain ⟨i, hi, hr⟩ := mem_wo.mp hm
    exact ⟨c, mem_set.mpr ⟨i, _, hr, by rw [if_neg hi]⟩, hc⟩
theorem wo_low (g : Good s) (h0 : 0 ≤ h) (q : FolS (woS s n) b a h = true) : FolS (lowS s [(n : Int)]) b a h = true :=
  follows_join (good_wo g n) (good_low g _) rfl (fun x y => conn_of fun p q c hm hc => by
    obtain ⟨i, hi, hr⟩ := mem_wo.mp hm
    exact ⟨c, mem_low.mpr ⟨i, _, hr, by rw [if_neg (fun z => hi (by have := List.mem_singleton.mp z; omega))]⟩, hc⟩) q
end
theorem low_nil (s : Sh) : lowS s [] = s := by
  show (s.1, s.2.zipIdx.map _) = s
  have : s.2.zipIdx.map (fun z => (z.1.1, z.1.2.1, if ((z.2 : Nat) : Int) ∈ ([] : List Int) then 0 else z.1.2.2)) = s.2 := by
    rw [show (fun z : Rg × Nat => (z.1.1, z.1.2.1, if ((z.2 : Nat) : Int) ∈ ([] : List Int) then (0 : Int) else z.1.2.2)) = Prod.fst from funext fun z => by rw [if_neg List.not_mem_nil]]
    exact List.zipIdx_map_fst 0 s.2
  rw [this]
/-! ### sets chosen, of each size -/
def chosenL : Nat → List Int → List (List Int)
  | 0, _ => [[]]
  | _ + 1, [] => []
  | k + 1, a :: r => (chosenL k r).map (a :: ·) ++ chosenL (k + 1) r
theorem mem_chosenL : ∀ {k : Nat} {xs l : List Int}, l ∈ chosenL k xs ↔ l.Sublist xs ∧ l.length = k
  | 0, xs, l => by
    rw [show chosenL 0 xs = [[]] by cases xs <;> rfl, List.mem_singleton, List.length_eq_zero_iff]
    exact ⟨fun e => ⟨by rw [e]; exact List.nil_sublist _, e⟩, fun h => h.2⟩
  | k + 1, [], l => by
    show l ∈ [] ↔ _
    rw [List.sublist_nil]
    exact ⟨fun h => (nomatch h), fun ⟨h1, h2⟩ => by rw [h1] at h2; cases h2⟩
  | k + 1, a :: r, l => by
    show l ∈ (chosenL k r).map (a :: ·) ++ chosenL (k + 1) r ↔ _
    rw [List.mem_append, List.mem_map, mem_chosenL]
    constructor
    · rintro (⟨m, hm, rfl⟩ | h)
      · obtain ⟨h1, h2⟩ := mem_chosenL.mp hm
        exact ⟨h1.cons_cons a, by rw [List.length_cons, h2]⟩
      · exact ⟨h.1.cons a, h.2⟩
    · rintro ⟨h1, h2⟩
      cases h1 with
      | cons _ h => exact .inr ⟨h, h2⟩
      | cons_cons _ h => exact .inl ⟨_, mem_chosenL.mpr ⟨h, by simpa using h2⟩, rfl⟩
theorem chosen_len : ∀ {k : Nat} {xs : List Int}, (chosenL k xs).length ≤ 2 ^ xs.length
  | 0, xs => by rw [show chosenL 0 xs = [[]] by cases xs <;> rfl]; exact Nat.one_le_two_pow
  | k + 1, [] => Nat.zero_le _
  | k + 1, a :: r => by
    have h1 := chosen_len (k := k) (xs := r)
    have h2 := chosen_len (k := k + 1) (xs := r)
    show ((chosenL k r).map (a :: ·) ++ chosenL (k + 1) r).length ≤ _
    rw [List.length_append, List.length_map, List.length_cons, Nat.pow_succ]; omega
theorem chosen_up : ∀ {k : Nat} {xs : List Int}, xs.Pairwise (· < ·) → (chosenL k xs).Pairwise (· < ·)
  | 0, xs, _ => by rw [show chosenL 0 xs = [[]] by cases xs <;> rfl]; exact List.pairwise_singleton _ _
  | _ + 1, [], _ => .nil
  | k + 1, a :: r, h => by
    rw [List.pairwise_cons] at h
    show ((chosenL k r).map (a :: ·) ++ chosenL (k + 1) r).Pairwise (· < ·)
    refine List.pairwise_append.mpr ⟨?_, chosen_up h.2, fun l hl m hm => ?_⟩
    · rw [List.pairwise_map]
      exact (chosen_up h.2).imp fun {l m} q => List.cons_lt_cons_iff.mpr (.inr ⟨rfl, q⟩)
    · obtain ⟨l', _, rfl⟩ := List.mem_map.mp hl
      obtain ⟨h1, h2⟩ := mem_chosenL.mp hm
      cases m with
      | nil => cases h2
      | cons b m => exact List.cons_lt_cons_iff.mpr (.inl (h.1 b (h1.subset List.mem_cons_self)))
/-- all sets, the smaller first -/
def cands (xs : List Int) : List (List Int) := (List.range (xs.length + 1)).flatMap fun k => chosenL k xs
theorem mem_cands {xs l : List Int} : l ∈ cands xs ↔ l.Sublist xs := by
  unfold cands
  rw [List.mem_flatMap]
  constructor
  · rintro ⟨k, _, h⟩; exact (mem_chosenL.mp h).1
  · intro h
    exact ⟨l.length, List.mem_range.mpr (by have := h.length_le; omega), mem_chosenL.mpr ⟨h, rfl⟩⟩
abbrev LI := Int × List Int
def key (l : List Int) : LI := ((l.length : Int), l)
theorem tlt_ints (l m : List Int) : tlt l m = decide (l < m) := by
  show PySem.W.dataLt (.list (l.map .int)) (.list (m.map .int)) = _
  rw [PySem.W.dataLt_list, ← PySem.W.dataLt_ints]; rfl
theorem tlt_key {l m : List Int} : tlt (key l) (key m) = true ↔ l.length < m.length ∨ (l.length = m.length ∧ l < m) := by
  show PySem.W.dataLt (.tuple [.int (l.length : Int), .list (l.map .int)]) (.tuple [.int (m.length : Int), .list (m.map .int)]) = true ↔ _
  rw [PySem.W.dataLt_pair rfl (show PySem.W.alike (.list (l.map .int)) (.list (m.map .int)) = true from PySem.W.DatumOrd.alike l m), eqv_int, PySem.W.dataLt_int, show PyData.eqv (.list (l.map .int)) (.list (m.map .int)) = decide (l = m) from PySem.W.Datum.eqv l m, show PySem.W.dataLt (.list (l.map .int)) (.list (m.map .int)) = decide (l < m) from tlt_ints l m]
  by_cases e : (l.length : Int) = m.length
  · rw [decide_eq_true e, if_pos rfl]
    by_cases q : l = m
    · subst q
      rw [decide_eq_true rfl, if_pos rfl]
      constructor
      · intro z; cases z
      · rintro (z | ⟨_, z⟩)
        · exact absurd z (Nat.lt_irrefl _)
        · exact absurd z (List.lt_irrefl l)
    · rw [decide_eq_false q, if_neg Bool.false_ne_true, decide_eq_true_eq]
      constructor
      · intro z; exact .inr ⟨by omega, z⟩
      · rintro (z | ⟨_, z⟩)
        · omega
        · exact z
  · rw [decide_eq_false e, if_neg Bool.false_ne_true, decide_eq_true_eq]
    omega
theorem cands_up {xs : List Int} (h : xs.Pairwise (· < ·)) : (cands xs).Pairwise fun l m => tlt (key l) (key m) = true := by
  unfold cands
  refine List.pairwise_flatMap.mpr ⟨fun k _ => ?_, List.pairwise_lt_range.imp fun {i j} hij l hl m hm => ?_⟩
  · refine (List.Pairwise.and_mem.mp (chosen_up (k := k) h)).imp fun {l m} ⟨h1, h2, q⟩ => tlt_key.mpr (.inr ⟨?_, q⟩)
    rw [(mem_chosenL.mp h1).2, (mem_chosenL.mp h2).2]
  · refine tlt_key.mpr (.inl ?_)
    rw [(mem_chosenL.mp hl).2, (mem_chosenL.mp hm).2]; exact hij
def subB (l m : List Int) : Bool := l.all fun x => decide (x ∈ m)
theorem subB_iff {l m : List Int} : subB l m = true ↔ ∀ x ∈ l, x ∈ m := by unfold subB; rw [List.all_eq_true]; simp
/-- good, and no other good one within it -/
def leastG (good : List Int → Bool) (cs : List (List Int)) (c : List Int) : Bool := good c && cs.all fun d => !(good d && subB d c && !decide (d = c))
theorem leastG_iff {good : List Int → Bool} {cs : List (List Int)} {c : List Int} : leastG good cs c = true ↔ good c = true ∧ ∀ d ∈ cs, good d = true → (∀ x ∈ d, x ∈ c) → d = c := by
  unfold leastG
  rw [Bool.and_eq_true, List.all_eq_true]
  refine and_congr Iff.rfl (forall_congr' fun d => forall_congr' fun _ => ?_)
  rw [Bool.not_eq_true']
  constructor
  · intro h h1 h2
    rw [h1, subB_iff.mpr h2] at h
    simpa using h
  · intro h
    cases h1 : good d with
    | false => rfl
    | true =>
      cases h2 : subB d c with
      | false => rfl
      | true => rw [decide_eq_true (h h1 (subB_iff.mp h2))]; rfl
section
variable {xs : List Int} {good : List Int → Bool}
theorem sub_len (h : xs.Pairwise (· < ·)) {l m : List Int} (hl : l.Sublist xs) (hm : m.Sublist xs) (hs : ∀ x ∈ l, x ∈ m) : l.length ≤ m.length ∧ (l.length = m.length → l = m) := by
  have nl : l.Nodup := (List.Pairwise.sublist hl h).imp fun q => Int.ne_of_lt q
  have h1 := nodup_len nl hs
  refine ⟨h1, fun e => ?_⟩
  have hp : l.Perm m := by
    have nm : m.Nodup := (List.Pairwise.sublist hm h).imp fun q => Int.ne_of_lt q
    refine (List.perm_ext_iff_of_nodup nl nm).mpr fun x => ⟨hs x, fun hx => Classical.byContradiction fun hn => ?_⟩
    have h2 := nodup_len (xs := x :: l) (ys := m) (List.nodup_cons.mpr ⟨hn, nl⟩) fun y hy => by
      rcases List.mem_cons.mp hy with rfl | hy
      · exact hx
      · exact hs y hy
    rw [List.length_cons] at h2
    omega
  exact hp.eq_of_pairwise (le := (· < ·)) (fun a b _ _ h1 h2 => by omega) (List.Pairwise.sublist hl h) (List.Pairwise.sublist hm h)
theorem least_in (h : xs.Pairwise (· < ·)) : ∀ (n : Nat) (c : List Int), c.length ≤ n → c ∈ cands xs → good c = true → ∃ d ∈ cands xs, leastG good (cands xs) d = true ∧ ∀ x ∈ d, x ∈ c
  | n, c, hn, hc, hg => by
    by_cases q : leastG good (cands xs) c = true
    · exact ⟨c, hc, q, fun x hx => hx⟩
    · have : ∃ d, d ∈ cands xs ∧ good d = true ∧ (∀ x ∈ d, x ∈ c) ∧ d ≠ c := Classical.byContradiction fun no => q (leastG_iff.mpr ⟨hg, fun d hd h1 h2 => Classical.byContradiction fun z => no ⟨d, hd, h1, h2, z⟩⟩)
      obtain ⟨d, hd, h1, h2, h3⟩ := this
      obtain ⟨l1, l2⟩ := sub_len h (mem_cands.mp hd) (mem_cands.mp hc) h2
      match n with
      | 0 => exact absurd (l2 (by omega)) h3
      | n + 1 =>
        have hlt : d.length ≠ c.length := fun e => h3 (l2 e)
        obtain ⟨e, he, k1, k2⟩ := least_in h n d (by omega) hd h1
        exact ⟨e, he, k1, fun x hx => h2 x (k2 x hx)⟩
/-- the next one is taken just where it is a least one -/
theorem take_next (h : xs.Pairwise (· < ·)) {pre post : List (List Int)} {c : List Int} (e : cands xs = pre ++ c :: post) : leastG good (cands xs) c = (!((pre.filter (leastG good (cands xs))).any fun l => subB l c) && good c) := by
  have up := cands_up h
  rw [e] at up
  obtain ⟨_, up2, up3⟩ := List.pairwise_append.mp up
  have hc : c ∈ cands xs := by rw [e]; exact List.mem_append_right _ List.mem_cons_self
  rw [Bool.eq_iff_iff, Bool.and_eq_true, Bool.not_eq_true', List.any_eq_false]
  constructor
  · intro q
    refine ⟨fun l hl hs => ?_, (leastG_iff.mp q).1⟩
    rw [List.mem_filter] at hl
    have hlc : l ∈ cands xs := by rw [e]; exact List.mem_append_left _ hl.1
    have := (leastG_iff.mp q).2 l hlc (leastG_iff.mp hl.2).1 (subB_iff.mp hs)
    subst this
    have := up3 l hl.1 l List.mem_cons_self
    rw [tlt_irrefl] at this; cases this
  · rintro ⟨q1, q2⟩
    refine leastG_iff.mpr ⟨q2, fun d hd h1 h2 => Classical.byContradiction fun h3 => ?_⟩
    obtain ⟨l1, l2⟩ := sub_len h (mem_cands.mp hd) (mem_cands.mp hc) h2
    have hlt : d.length ≠ c.length := fun e => h3 (l2 e)
    obtain ⟨m, hm, k1, k2⟩ := least_in h d.length d (Nat.le_refl _) hd h1
    obtain ⟨m1, _⟩ := sub_len h (mem_cands.mp hm) (mem_cands.mp hd) k2
    have hpre : m ∈ pre := by
      rw [e] at hm
      rcases List.mem_append.mp hm with hm | hm
      · exact hm
      · rcases List.mem_cons.mp hm with rfl | hm
        · omega
        · have := tlt_key.mp ((List.pairwise_cons.mp up2).1 m hm)
          omega
    exact q1 m (List.mem_filter.mpr ⟨hpre, k1⟩) (subB_iff.mpr fun x hx => h2 x (k2 x hx))
end
end LP
/-! DL22: comprehensions over a list of one's own. -/
namespace DL
open PySem PySem.Spec PyProof.Rows L2
/-- walked while what stands at the walk's start stands -/
def WalkO (K : PySem.W.Frag) (G H1 : Hp) (J : It) (items : List D) : Prop := ∃ Y, L2.Walk J items.length (fun H' => Ex G H' ∧ Ex H1 H') Y ∧ ∀ i H' x H'' G', Y i H' x H'' → Ex G G' → Ex G' H' → ∃ G'' d, Ext G' H' G'' H'' ∧ items[i]? = some d ∧ Dp K G'' x d
def tIo (K : PySem.W.Frag) (H0 : Bs) (ρ : Env) (items : List D) : TI := fun σ H R => ∃ G, Ex G H ∧ Slots K H0 G H σ ρ ∧ ∀ J G2 H2, Ext G H G2 H2 → WalkO K G2 H2 J items → R J H2
abbrev DIo (X : Cx) (H0 : Bs) (ρ : Env) (tg e : Expr) (items : List D) : Prop := PI X tg e (tIo X.K H0 ρ items)
section
variable {X : Cx} {H0 : Bs} {ρ : Env} {tg e elt iter : Expr} {ds : List D} {α : Type} {xs : List α} {enc : α → D} {ifs : List Expr} {scope : Scope} {own : List (Str × Nat)} {pos : Pos}
theorem wo_list {K : PySem.W.Frag} {G H1 : Hp} {a : Addr} {vs : List V} (h : SqL K H1 a vs) (r : DpAll K G vs ds) : WalkO K G H1 (Itl K a) ds := by
  rw [WalkO, ← r.length]
  refine ⟨_, walk_list.mono (fun H' e => e.2.seqL h) fun i H x H' _ _ y => y, fun i H' x H'' G' y e1 e2 => ?_⟩
  obtain ⟨rfl, hx⟩ := y
  obtain ⟨d, hd, rd⟩ := r.at' hx
  exact ⟨G', d, Ext.refl e2, hd, rd.up e1⟩
theorem dio_r (h : DR X H0 ρ e ds) : DIo X H0 ρ tg e ds := (pi_list h).imp fun σ H R ⟨G, x, sl, q⟩ => ⟨G, x, sl, fun p vs G1 H1 y hs r => ⟨p, rfl, ⟨vs, hs⟩, q _ G1 H1 y (wo_list hs r)⟩⟩
theorem dio_to {ds' : List D} (h : DIo X H0 ρ tg e ds) (q : ds = ds') : DIo X H0 ρ tg e ds' := q ▸ h
theorem lc_readingO (p : α → Bool) (g : α → D) (hz : xs.length ≤ 100000) {vs : List Nat} (hb : ∀ x ∈ xs, LcTurn X H0 ρ tg ifs elt scope vs (enc x) (p x) (g x)) :
    ∀ σ H Q, tL X.K H0 ρ ((xs.filter p).map g) σ H Q → tLc (tIo X.K H0 ρ (xs.map enc)) (lcG X scope tg) (lcT X scope ifs) (lcE X scope elt) vs σ H Q := fun σ H Q ⟨G, e0, sl, q⟩ => by
  refine ⟨G, e0, sl, fun J G1 H1 y1 ⟨Y, w, hy⟩ Dl hD => ?_⟩
  have g1D : G1 Dl = none := y1.gh.back hD
  refine lc_it (g := lcG X scope tg) (tt := lcT X scope ifs) (te := lcE X scope elt) (vs := vs) (σ := σ) (Qd := fun H' => Q (.ref Dl) H') w (fun i H' => ∃ G' acc, Ext G1 H1 G' H' ∧ G' Dl = none ∧ H' Dl = some (.lst acc) ∧ DpAll X.K G' acc (((xs.take i).filter p).map g))
    ⟨G1, [], Ext.heap y1.gh (Ex.new hD), g1D, upd_same, by simpa using DpAll.nil⟩ (fun i H' _ ⟨G', acc, x, _⟩ => ⟨x.g.trans x.gh, x.h⟩) (fun i v H' H'' hi ⟨G', acc, x, gn, ha, ra⟩ hyv => ?_) (fun H' ⟨G', acc, x, gn, ha, ra⟩ => ?_)
  · rw [List.length_map] at hi
    obtain ⟨G2, d, x2, hd, rd⟩ := hy i H' v H'' G' hyv x.g x.gh
    have hx : xs[i]? = some xs[i] := List.getElem?_eq_getElem hi
    rw [List.getElem?_map, hx] at hd
    obtain rfl := Option.some.inj hd
    obtain ⟨ρ', js, hjs, hb'⟩ := hb xs[i] (List.getElem_mem hi)
    have x12 : Ext G1 H1 G2 H'' := x.trans x2
    refine ⟨tG X.K H0 (wipeE ρ vs) (enc xs[i]) ρ' js, fun s H C cl fp => (hb' s H C cl fp).1, G2, x2.gh, slots_wipe ((sl.up y1).up x12) vs, rd, fun σ' sl' hw => ⟨(hw vs hjs).trans (wipe_wipe vs σ), ?_⟩⟩
    refine ⟨tT X.K H0 ρ' (p xs[i]), fun s H C cl fp => (hb' s H C cl fp).2.1, G2, x2.gh, sl', fun G3 H3 x3 => ?_⟩
    have x13 := x12.trans x3
    have a3 : H3 Dl = some (.lst acc) := x3.h _ _ (x2.h _ _ ha)
    have n3 : G3 Dl = none := x3.keepN (x2.keepN gn ha) (x2.h _ _ ha)
    have r3 := (ra.up x2.g).up x3.g
    have hfs := filter_snoc (p := p) (g := g) hx
    cases hp : p xs[i] with
    | false =>
      show (if false = true then _ else _)
      rw [if_neg Bool.false_ne_true]
      rw [hp, if_neg Bool.false_ne_true, List.append_nil] at hfs
      exact ⟨G3, acc, x13, n3, a3, by rw [hfs]; exact r3⟩
    | true =>
      show (if true = true then _ else _)
      rw [if_pos rfl]
      rw [hp, if_pos rfl] at hfs
      refine ⟨tD X.K H0 ρ' (g xs[i]), fun s H C cl fp => (hb' s H C cl fp).2.2 hp, G3, x3.gh, sl'.up x3, fun u G4 H4 x4 r4 => ⟨acc, x4.h _ _ a3, ?_, G4, acc ++ [u], ?_, x4.keepN n3 a3, upd_same, ?_⟩⟩
      · rw [ra.length, List.length_map]
        exact Nat.lt_of_le_of_lt (Nat.le_trans (List.length_filter_le _ _) (by rw [List.length_take]; exact Nat.le_trans (Nat.min_le_right _ _) hz)) (by decide)
      · have x14 := x13.trans x4
        exact ⟨x14.g, x14.h.mut hD, x14.gh.mut (x4.keepN n3 a3), x14.nw, x14.nt⟩
      · rw [hfs]; exact (r3.up x4.g).app (DpAll.one r4)
  · rw [List.length_map, List.take_length] at ra
    exact q Dl acc G' H' (y1.trans x) (y1.h.back hD) gn ha ra
/-- [.. for .. in xs if ..], xs a list of one's own -/
theorem dl_lcO (p : α → Bool) (g : α → D) (hc : X.calm = true) (hN : X.N.Nodup) (hi : DIo X H0 ρ tg iter (xs.map enc)) (ok : BlkOk X.N X.env.scope scope own) (hz : xs.length ≤ 100000) (hb : ∀ x ∈ xs, LcTurn X H0 ρ tg ifs elt scope (own.map (·.2)) (enc x) (p x) (g x))
    (hs : ∀ x, foldedSetIterable iter X.env x = pure x := by intro _; rfl) : DL X H0 ρ (.ListComp elt [⟨tg, iter, ifs, 0⟩] scope pos) ((xs.filter p).map g) :=
  (pe_lc (own := own) (wi := tIo X.K H0 ρ (xs.map enc)) (g := lcG X scope tg) (tt := lcT X scope ifs) (te := lcE X scope elt) hc hN hi ok
    (fun s H C cl fp => ⟨fun pins s' σ H' v u Q I r ⟨t, h, q⟩ => (h s H C cl fp).run pins s' σ H' v u Q I r q⟩)
    (fun s H C cl fp => ⟨fun pins s' σ H' Q I ⟨t, h, q⟩ => (h s H C cl fp).run pins s' σ H' Q I q⟩)
    (fun s H C cl fp => ⟨fun pins s' σ H' Q I ⟨t, h, q⟩ => (h s H C cl fp).run pins s' σ H' Q I q⟩) hs).imp (lc_readingO p g hz hb)
theorem dl_mapO (g : α → D) (hc : X.calm = true) (hN : X.N.Nodup) (hi : DIo X H0 ρ tg iter (xs.map enc)) (ok : BlkOk X.N X.env.scope scope own) (hz : xs.length ≤ 100000) (hb : ∀ x ∈ xs, LcTurn X H0 ρ tg [] elt scope (own.map (·.2)) (enc x) true (g x))
    (hs : ∀ x, foldedSetIterable iter X.env x = pure x := by intro _; rfl) : DL X H0 ρ (.ListComp elt [⟨tg, iter, [], 0⟩] scope pos) (xs.map g) :=
  dl_to (dl_lcO (fun _ => true) g hc hN hi ok hz hb hs) (by rw [List.filter_eq_self.mpr fun _ _ => rfl])
theorem de_neg {a : Expr} {i : Int} (ha : DE X H0 ρ a (.int i)) : DE X H0 ρ (.UnaryOp .USub a pos) (.int (-i)) := (pe_un un_neg ha).imp fun σ H Q ⟨G, x, sl, q⟩ => ⟨G, x, sl, fun v G1 H1 y r => ⟨i, dp_int r, q _ G1 H1 y (.int _)⟩⟩
theorem eqNilT {a : Expr} {k : Nat} {p2 : Pos} (hr : Room k X.A) (h : PyData.plainAll ds = true) (ha : DR X H0 ρ a ds) (hm : behindInMarks .Eq (.List [] p2) = false := by first | exact nomark _ | rfl) : DT X H0 ρ (.Compare a [.Eq] [.List [] p2] pos) ds.isEmpty :=
  dt_to (dt_cmpL (op_eqP hr.units) (od_eqL h rfl (.inr (Nat.le_of_ble_eq_true rfl))) ha (dl_e (dl_lst da_nil)) hm) (by rw [eqv_nil])
theorem atI_last {d : D} : atI (ds ++ [d]) (-1) = some d := by
  unfold atI ixN
  rw [if_neg (by decide), List.length_append, List.length_singleton]
  split
  · show (ds ++ [d])[_]? = some d
    rw [show ((-1 : Int) + ((ds.length + 1 : Nat) : Int)).toNat = ds.length by omega, List.getElem?_append_right (Nat.le_refl _), Nat.sub_self]; rfl
  · rename_i h; exact absurd (by omega) h
theorem eqv_ref (n : Str) : PyData.eqv (refusedD n) (refusedD n) = true := by simp [refusedD, PyData.eqv, PyData.eqvAll]
theorem refD_plain (n : Str) : (refusedD n).plain = true := by simp [refusedD, PyData.plain, PyData.plainAll]
theorem refD_depth (n : Str) : (refusedD n).depth ≤ 50 := by simp [refusedD, PyData.depth, PyData.depthAll]
end
end DL
/-! DL23: comprehensions that roll, in frames with own lists. -/
namespace DL
open PySem PySem.Spec PyProof.Rows L2
def noO : Sl → Bool | .own _ _ => false | .thg _ => false | _ => true
/-- own lists and things of both stand in the same places, outside vs -/
def SameO (vs : List Nat) : Nat → Env → Env → Prop
  | _, [], [] => True
  | n, a :: r, b :: r' => ((a = b ∧ n ∉ vs) ∨ (noO a = true ∧ noO b = true)) ∧ SameO vs (n + 1) r r'
  | _, _, _ => False
theorem SameO.atS {vs : List Nat} : ∀ {n : Nat} {r r' : Env}, SameO vs n r r' → ∀ {j} {s : Sl}, noO s = false → (r[j]? = some s ↔ r'[j]? = some s) ∧ (r[j]? = some s → n + j ∉ vs)
  | n, [], [], _, j, s, _ => ⟨Iff.rfl, fun h => by simp at h⟩
  | n, a :: r, b :: r', ⟨h, t⟩, 0, s, hs => by
    rw [List.getElem?_cons_zero, List.getElem?_cons_zero]
    rcases h with ⟨rfl, hn⟩ | ⟨h1, h2⟩
    · exact ⟨Iff.rfl, fun _ => hn⟩
    · refine ⟨⟨fun e => ?_, fun e => ?_⟩, fun e => ?_⟩
      · cases e; rw [hs] at h1; cases h1
      · cases e; rw [hs] at h2; cases h2
      · cases e; rw [hs] at h1; cases h1
  | n, a :: r, b :: r', ⟨h, t⟩, j + 1, s, hs => by
    rw [List.getElem?_cons_succ, List.getElem?_cons_succ, show n + (j + 1) = n + 1 + j by omega]
    exact t.atS hs
  | _, [], _ :: _, h, _, _, _ => h.elim
  | _, _ :: _, [], h, _, _, _ => h.elim
theorem SameO.at {vs : List Nat} {n : Nat} {r r' : Env} (h : SameO vs n r r') {j : Nat} {ds : List D} {p0 : Option Addr} : (r[j]? = some (Sl.own ds p0) ↔ r'[j]? = some (Sl.own ds p0)) ∧ (r[j]? = some (Sl.own ds p0) → n + j ∉ vs) := h.atS rfl
theorem SameO.atT {vs : List Nat} {n : Nat} {r r' : Env} (h : SameO vs n r r') {j : Nat} {t : Thg} : (r[j]? = some (Sl.thg t) ↔ r'[j]? = some (Sl.thg t)) ∧ (r[j]? = some (Sl.thg t) → n + j ∉ vs) := h.atS rfl
theorem wipe_keep {j : Nat} : ∀ (vs : List Nat) (σ : L2.St), j ∉ vs → (wipe σ vs)[j]? = σ[j]?
  | [], _, _ => rfl
  | v :: vs, σ, h => by
    show ((wipe σ vs).set v none)[j]? = _
    have ne : v ≠ j := fun e => h (by rw [e]; exact List.mem_cons_self)
    rw [List.getElem?_set_ne ne, wipe_keep vs σ fun m => h (List.mem_cons_of_mem _ m)]
section
variable {K : PySem.W.Frag} {E E' : Fam} {i : Nat} {p Dl : Addr} {G1 H1 G4 H4 : Hp} {H0 : Bs} {σ σ' : L2.St} {x k x' k' : Int} {vs : List Nat} {o o' : HO}
theorem Slots.backO (s1 : Slots K H0 G1 H1 σ (E x k)) (sl4 : Slots K (H0.plus Dl o) G4 H4 σ' (E' x' k')) (g : Ex G1 G4) (dc : Dice E i p) (same : SameO vs 0 (E x' k') (E' x' k')) (hw : ∀ j, j ∉ vs → σ'[j]? = σ[j]?) (na : NoAl (E x' k') σ Dl) (hin : H0.inv (upd H4 Dl o')) : Slots K H0 G4 (upd H4 Dl o') σ (E x' k') := by
  have own' : ∀ {j ds p0}, (E x' k')[j]? = some (Sl.own ds p0) → (E' x' k')[j]? = some (Sl.own ds p0) ∧ σ'[j]? = σ[j]? := fun {j ds p0} h => ⟨same.at.1.mp h, hw j (by have := same.at.2 h; rwa [Nat.zero_add] at this)⟩
  refine ⟨by rw [dc.chg x k x' k', List.length_set, s1.len], fun j d' hd => ?_, fun j es p0 hd => ?_, fun j k es fs p0 p1 q hjk h1 h2 h3 => ?_, fun j es p' q h1 h2 => ?_, hin, fun j v9 h9 => ?_, ?_⟩
  · rw [dc.chg x k x' k'] at hd
    by_cases q : i = j
    · subst q
      obtain ⟨e, hl⟩ := get_set_eq hd
      cases e
    · obtain ⟨v, ev, r⟩ := s1.dat j d' (get_set_ne q hd)
      exact ⟨v, ev, r.up g⟩
  · obtain ⟨h1, h2⟩ := own' hd
    obtain ⟨q, ws, e, h0, g0, hh, r⟩ := sl4.own j es p0 h1
    have ne : q ≠ Dl := fun z => by subst z; change upd H0.out q o q = none at h0; rw [upd_same] at h0; cases h0
    exact ⟨q, ws, by rw [← h2]; exact e, by change upd H0.out Dl o q = none at h0; rwa [upd_ne ne] at h0, g0, by rw [upd_ne ne]; exact hh, r⟩
  · obtain ⟨a1, a2⟩ := own' h1
    obtain ⟨b1, b2⟩ := own' h2
    rw [← a2] at h3
    rw [← b2]
    exact sl4.apart j k es fs p0 p1 q hjk a1 b1 h3
  · obtain ⟨a1, a2⟩ := own' h1
    rw [← a2] at h2
    exact sl4.pin j es p' q a1 h2
  · rw [dc.chg x k x' k'] at h9
    exact s1.raw j v9 (get_set_ne (fun q => by subst q; obtain ⟨e, _⟩ := get_set_eq h9; cases e) h9)
  · refine sl4.thg.to (fun j t h => ⟨same.atT.1.mp h, (hw j (by have := same.atT.2 h; rwa [Nat.zero_add] at this)).symm⟩) (fun j ds p0 q h1 h2 => ?_) fun j t h1 h2 => ⟨fun c hc => ?_⟩
    · obtain ⟨a1, a2⟩ := own' h1
      exact .inl ⟨ds, p0, a1, a2.trans h2⟩
    · obtain ⟨a1, a2, u, a3, a4⟩ := h2.ok c hc
      have ne : c.at_ ≠ Dl := fun z => na.thg j t (same.atT.1.mpr h1) ⟨c, hc, z⟩
      exact ⟨fun hw => by have a1 := a1 hw; change upd H0.out Dl o c.at_ = none at a1; rwa [upd_ne ne] at a1, a2, u, by rw [upd_ne ne]; exact a3, a4⟩
theorem Slots.frameO (s : Slots K H0 G1 H1 σ (E x k)) (h9 : NoAl (E x k) σ Dl) : Slots K (H0.plus Dl o) G1 H1 σ (E x k) := by
  refine ⟨s.len, s.dat, fun j es p0 hd => ?_, s.apart, s.pin, s.inv, s.raw, s.thg.to (fun _ _ h => ⟨h, rfl⟩) (fun _ ds p0 _ h1 h2 => .inl ⟨ds, p0, h1, h2⟩) fun j t h1 h => h.out_ (fun a ha z => ?_) (fun _ _ z => z) (fun _ _ => rfl) (Ex.refl G1)⟩
  rotate_left
  · have ne : a ≠ Dl := fun e => h9.thg j t h1 (e ▸ ha)
    show upd H0.out Dl o a = none
    rw [upd_ne ne]; exact z
  obtain ⟨q, vs, e', h0', hg', hh', r⟩ := s.own j es p0 hd
  have ne : q ≠ Dl := fun z => h9.own j es p0 hd (z ▸ e')
  exact ⟨q, vs, e', by show upd H0.out Dl o q = none; rw [upd_ne ne]; exact h0', hg', hh', r⟩
theorem NoAl.of (s : Slots K H0 G1 H1 σ (E x k)) (h : H1 Dl = none) : NoAl (E x k) σ Dl := s.free h
theorem NoAl.fam (dc : Dice E i p) (h : NoAl (E x k) σ Dl) : NoAl (E x' k') σ Dl := by
  refine ⟨fun j es p0 hd => ?_, fun j t hd => ?_⟩
  · rw [dc.chg x k x' k'] at hd
    by_cases q : i = j
    · subst q
      exact h.own i _ _ (dc.has x k)
    · exact h.own j es p0 (get_set_ne q hd)
  · rw [dc.chg x k x' k'] at hd
    exact h.thg j t (get_set_ne (fun q => by subst q; obtain ⟨e, _⟩ := get_set_eq hd; cases e) hd)
theorem Slots.newL {q : Addr} (s : Slots K H0 G1 H1 σ (E x k)) (h : H1 q = none) : Slots K H0 G1 (upd H1 q (.lst [])) σ (E x k) := by
  refine ⟨s.len, s.dat, fun j es p0 hd => ?_, s.apart, s.pin, H0.keep _ _ s.inv fun a o ha _ => Ex.new h a o ha, s.raw, s.thg.to (fun _ _ h => ⟨h, rfl⟩) (fun _ ds p0 _ h1 h2 => .inl ⟨ds, p0, h1, h2⟩) fun j t h1 h2 => ⟨fun c hc => let ⟨a1, a2, o, a3, a4⟩ := h2.ok c hc; ⟨a1, a2, o, Ex.new h _ _ a3, a4⟩⟩⟩
  obtain ⟨r, vs, e', h0', hg', hh', rr⟩ := s.own j es p0 hd
  exact ⟨r, vs, e', h0', hg', Ex.new h _ _ hh', rr⟩
end
section
variable {X : Cx} {F : Fr0} {E : Fam} {i : Nat} {p : Addr} {tg iter elt e : Expr} {scope : Scope} {own : List (Str × Nat)} {pos p1 : Pos} {items : List D} {Se S : D → Prop}
theorem lcO_reading (E' : D → Fam) (hz : items.length ≤ 100000) (dc : Dice E i p) (same : ∀ d x k, SameO (own.map (·.2)) 0 (E x k) (E' d x k))
    (hb : ∀ d ∈ items, ∃ js, (∀ j ∈ js, j ∈ own.map (·.2)) ∧ ∀ (s : Shared) (H : Hp) (C : Addr) (cl : List (Str × Addr)) (fp : List Addr), (∀ x k H0, DG (X.blk s H scope (compEnvC scope cl C X.env) fp) H0 (wipeE (E x k) (own.map (·.2))) tg d (E' d x k) js) ∧ ∀ F', DX (X.blk s H scope (compEnvC scope cl C X.env) fp) F' (E' d) elt Se) :
    ∀ σ H Q, tXL X.K F E (fun ds => ds.length = items.length ∧ ∀ d ∈ ds, Se d) σ H Q → tLc (fun σ H R => ∃ x k, tI X.K F.H0 (E x k) items σ H R) (lcG X scope tg) (lcT X scope []) (lcE X scope elt) (own.map (·.2)) σ H Q := fun σ H Q ⟨x0, k0, G, e0, sl, q⟩ => by
  refine ⟨x0, k0, G, e0.gh, sl, fun J G1 H1 y1 ⟨Y, w, hy⟩ Dl hD => ?_⟩
  have g1D : G1 Dl = none := y1.gh.back hD
  have e1 := e0.trans y1
  have f0 : F.H0.out Dl = none := e1.h.back hD
  have na0 : NoAl (E x0 k0) σ Dl := NoAl.of (sl.up y1) hD
  refine lc_it (g := lcG X scope tg) (tt := lcT X scope []) (te := lcE X scope elt) (vs := own.map (·.2)) (σ := σ) (Qd := fun H' => Q (.ref Dl) H') w (fun n H' => ∃ x k G' acc ds, Ext F.G0 F.H0.out G' H' ∧ Ex G1 G' ∧ Slots X.K F.H0 G' H' σ (E x k) ∧ G' Dl = none ∧ H' Dl = some (.lst acc) ∧ DpAll X.K G' acc ds ∧ ds.length = n ∧ ∀ d ∈ ds, Se d)
    ⟨x0, k0, G1, [], [], ⟨e1.g, e1.h.mut f0, e1.gh.mut g1D, e1.nw, e1.nt⟩, Ex.refl G1, (sl.up y1).newL hD, g1D, upd_same, .nil, rfl, fun d h => by cases h⟩ (fun n H' _ ⟨x, k, G', acc, ds, ex, g, _⟩ => g.trans ex.gh) (fun n v H' H'' hn ⟨x, k, G', acc, ds, ex, g, s1, gn, ha, ra, hl, hse⟩ hyv => ?_) (fun H' ⟨x, k, G', acc, ds, ex, g, s1, gn, ha, ra, hl, hse⟩ => ?_)
  · obtain ⟨G2, d, x2, hd, rd⟩ := hy n H' v H'' G' hyv g ex.gh
    have hdm : d ∈ items := List.mem_of_getElem? hd
    obtain ⟨js, hjs, hb'⟩ := hb d hdm
    have s2 := s1.up x2
    have a2 : H'' Dl = some (.lst acc) := x2.h _ _ ha
    have n2 : G2 Dl = none := x2.keepN gn ha
    have ex2 := ex.trans x2
    refine ⟨tG X.K F.H0 (wipeE (E x k) (own.map (·.2))) d (E' d x k) js, fun s H C cl fp => (hb' s H C cl fp).1 x k F.H0, G2, x2.gh, slots_wipe s2 _, rd, fun σ' sl' hw => ⟨(hw _ hjs).trans (wipe_wipe _ σ), ?_⟩⟩
    have hσ : ∀ j, j ∉ own.map (·.2) → σ'[j]? = σ[j]? := fun j hj => by
      have := (hw _ hjs).trans (wipe_wipe _ σ)
      rw [← wipe_keep _ σ' hj, this, wipe_keep _ σ hj]
    refine ⟨tT X.K F.H0 (E' d x k) true, fun s H C cl fp => dts_nil, G2, x2.gh, sl', fun G3 H3 x3 => ?_⟩
    show (if true = true then _ else _)
    rw [if_pos rfl]
    have sl3 := sl'.up x3
    have ex3 := ex2.trans x3
    have a3 : H3 Dl = some (.lst acc) := x3.h _ _ a2
    have n3 : G3 Dl = none := x3.keepN n2 a2
    have na : NoAl (E' d x k) σ' Dl := by
      refine ⟨fun j es p0 hd => ?_, fun j t hd => (na0.fam dc).thg j t ((same d x k).atT.1.mpr hd)⟩
      have h1 := (same d x k).at.1.mpr hd
      have h2 := (same d x k).at.2 h1
      rw [Nat.zero_add] at h2
      rw [hσ j h2]
      exact (na0.fam dc).own j es p0 h1
    refine ⟨tX X.K ⟨F.H0.plus Dl (.lst acc), F.G0, F.E⟩ (E' d) Se, fun s H C cl fp => (hb' s H C cl fp).2 _, x, k, G3, ⟨ex3.g, fun a o h => ?_, ex3.gh, fun a o h m => ?_, ex3.nt⟩, sl3.frameO na, fun d4 x4 k4 v4 G4 H4 se4 e4 g4 sl4 r4 => ?_⟩
    · by_cases z : a = Dl
      · subst z; change upd F.H0.out a (.lst acc) a = some o at h; rw [upd_same] at h; cases h; exact a3
      · change upd F.H0.out Dl (.lst acc) a = some o at h; rw [upd_ne z] at h; exact ex3.h a o h
    · show upd F.H0.out Dl (.lst acc) a = none
      by_cases z : a = Dl
      · subst z; rw [n3] at h; cases h
      · rw [upd_ne z]; exact ex3.nw a o h m
    · have a4 : H4 Dl = some (.lst acc) := e4.h Dl _ upd_same
      have n4 : G4 Dl = none := by
        cases z : G4 Dl with
        | none => rfl
        | some o =>
          have f1 : F.G0 Dl = none := ex3.g.back n3
          have := e4.nw Dl o z f1
          change upd F.H0.out Dl (.lst acc) Dl = none at this
          rw [upd_same] at this; cases this
      have ex4 : Ext F.G0 F.H0.out G4 H4 := ⟨e4.g, fun a o h => e4.h a o (by
        show upd F.H0.out Dl (.lst acc) a = some o
        rw [upd_ne (ne_of_none h f0)]; exact h), e4.gh, fun a o h m => by
        have := e4.nw a o h m
        change upd F.H0.out Dl (.lst acc) a = none at this
        by_cases z : a = Dl
        · subst z; exact f0
        · rw [upd_ne z] at this; exact this, e4.nt⟩
      have gg : Ex G' G4 := x2.g.trans (x3.g.trans g4)
      refine ⟨acc, a4, ?_, x4, k4, G4, acc ++ [v4], ds ++ [d4], ⟨ex4.g, ex4.h.mut f0, ex4.gh.mut n4, ex4.nw, ex4.nt⟩, g.trans gg, s1.backO sl4 gg dc (same d x4 k4) hσ (na0.fam dc) (F.H0.keep _ _ sl4.inv fun b o hb9 hnl => by rw [upd_ne fun z => by rw [z, a4] at hb9; cases hb9; exact hnl trivial]; exact hb9), n4, upd_same, (ra.up gg).app (DpAll.one r4), by rw [List.length_append, hl]; rfl, fun d hd => ?_⟩
      · rw [ra.length, hl]; exact Nat.lt_of_lt_of_le hn (Nat.le_trans hz (by decide))
      · rcases List.mem_append.mp hd with hd | hd
        · exact hse d hd
        · rw [List.mem_singleton.mp hd]; exact se4
  · exact q Dl acc ds x k G' H' ⟨hl, hse⟩ ex (y1.g.trans g) s1 f0 (na0.fam dc) gn ha ra
theorem dlx_lcO (E' : D → Fam) (hc : X.calm = true) (hN : X.N.Nodup) (hi : ∀ x k, DI X F.H0 (E x k) tg iter items) (ok : BlkOk X.N X.env.scope scope own) (hz : items.length ≤ 100000) (dc : Dice E i p) (same : ∀ d x k, SameO (own.map (·.2)) 0 (E x k) (E' d x k))
    (hb : ∀ d ∈ items, ∃ js, (∀ j ∈ js, j ∈ own.map (·.2)) ∧ ∀ (s : Shared) (H : Hp) (C : Addr) (cl : List (Str × Addr)) (fp : List Addr), (∀ x k H0, DG (X.blk s H scope (compEnvC scope cl C X.env) fp) H0 (wipeE (E x k) (own.map (·.2))) tg d (E' d x k) js) ∧ ∀ F', DX (X.blk s H scope (compEnvC scope cl C X.env) fp) F' (E' d) elt Se)
    (hs : ∀ x, foldedSetIterable iter X.env x = pure x := by intro _; rfl) : PE X (.ListComp elt [⟨tg, iter, [], 0⟩] scope pos) (tXL X.K F E fun ds => ds.length = items.length ∧ ∀ d ∈ ds, Se d) :=
  (pe_lc (own := own) (wi := fun σ H R => ∃ x k, tI X.K F.H0 (E x k) items σ H R) (g := lcG X scope tg) (tt := lcT X scope []) (te := lcE X scope elt) hc hN ⟨fun pins s σ H Q I ⟨x, k, q⟩ => (hi x k).run pins s σ H Q I q⟩ ok
    (fun s H C cl fp => ⟨fun pins s' σ H' v u Q I r ⟨t, h, q⟩ => (h s H C cl fp).run pins s' σ H' v u Q I r q⟩)
    (fun s H C cl fp => ⟨fun pins s' σ H' Q I ⟨t, h, q⟩ => (h s H C cl fp).run pins s' σ H' Q I q⟩)
    (fun s H C cl fp => ⟨fun pins s' σ H' Q I ⟨t, h, q⟩ => (h s H C cl fp).run pins s' σ H' Q I q⟩) hs).imp (lcO_reading E' hz dc same hb)
/-- y = [..], rolling -/
theorem dsx_setLc {j : Nat} {y : Str} {py spos : Pos} {rest : List Stmt} {N : DEnd} (E' : D → Fam) (hc : X.calm = true) (hN : X.N.Nodup) (hi : ∀ x k, DI X F.H0 (E x k) tg iter items) (ok : BlkOk X.N X.env.scope scope own) (hz : items.length ≤ 100000) (dc : Dice E i p) (same : ∀ d x k, SameO (own.map (·.2)) 0 (E x k) (E' d x k))
    (hb : ∀ d ∈ items, ∃ js, (∀ j ∈ js, j ∈ own.map (·.2)) ∧ ∀ (s : Shared) (H : Hp) (C : Addr) (cl : List (Str × Addr)) (fp : List Addr), (∀ x k H0, DG (X.blk s H scope (compEnvC scope cl C X.env) fp) H0 (wipeE (E x k) (own.map (·.2))) tg d (E' d x k) js) ∧ ∀ F', DX (X.blk s H scope (compEnvC scope cl C X.env) fp) F' (E' d) elt Se)
    (hr : ∀ ds : List D, ds.length = items.length → (∀ d ∈ ds, Se d) → DSX X F (fun x k => (E x k).set j (.own ds)) rest N) (hsw : swapsWith (.ListComp elt [⟨tg, iter, [], 0⟩] scope pos) (some (.Name y py)) spos.line X.env = pure true) (hy : X.N[j]? = some y := by rfl) (hyl : X.env.scope.names.lookup y = some .local := by rfl)
    (hs : ∀ x, foldedSetIterable iter X.env x = pure x := by intro _; rfl) : DSX X F E (.Assign [.Name y py] (.ListComp elt [⟨tg, iter, [], 0⟩] scope pos) spos :: rest) N := fun x0 k0 =>
  (pss_cons (ps_setLc (own := own) (wi := fun σ H R => ∃ x k, tI X.K F.H0 (E x k) items σ H R) (g := lcG X scope tg) (tt := lcT X scope []) (te := lcE X scope elt) hc hN hy hyl hsw ⟨fun pins s σ H Q I ⟨x, k, q⟩ => (hi x k).run pins s σ H Q I q⟩ ok
    (fun s H C cl fp => ⟨fun pins s' σ H' v u Q I r ⟨t, h, q⟩ => (h s H C cl fp).run pins s' σ H' v u Q I r q⟩)
    (fun s H C cl fp => ⟨fun pins s' σ H' Q I ⟨t, h, q⟩ => (h s H C cl fp).run pins s' σ H' Q I q⟩)
    (fun s H C cl fp => ⟨fun pins s' σ H' Q I ⟨t, h, q⟩ => (h s H C cl fp).run pins s' σ H' Q I q⟩) hs) PSs.any).imp fun D σ H ⟨G, ex, sl, a⟩ =>
    lcO_reading (F := F) E' hz dc same hb σ H (fun u H1 => gName j u σ H1 fun σ' H' => ∃ t, PSs X rest t ∧ t D σ' H') ⟨x0, k0, G, ex, sl, fun q vs ds x1 k1 G1 H1 s1 e1 g1 sl1 h0 na gq hh r => ⟨_, hr ds s1.1 s1.2 x1 k1, tS_up (D := D) e1 g1 (sl1.setO (i := j) (p9 := none) h0 gq hh r na) a⟩⟩
end
end DL
/-! LSet6: sorted(set(..)) over a list of ints. -/
namespace LS
open PySem PySem.Spec PyProof.Rows L2 DL LP
section
variable {P : Program} {w : World} {A : Around} {E : Value → Shared → Prop} {s : Shared}
theorem setR_count {h : Heap} {a : Addr} {ns M : List Int} {n : Nat} (R : SetR w h a (fun j => decide (j ∈ ns)) n) (hM : ∀ x ∈ ns, x ∈ M) : n ≤ M.length := by
  obtain ⟨o, es, ep, t, ho, hex, hd, g, nd, hm, hb, hf, hn, hr, hl⟩ := R
  have h1 : (es.toList.map keyOf).length = n := by rw [List.length_map, Array.length_toList]; exact hn
  rw [← h1]
  exact nodup_len nd fun x hx => hM x (of_decide_eq_true ((hm x).mpr hx))
theorem call_setI {l : Addr} {items : Array Value} {ns : List Int} {Q : Value → Shared → Prop} (hh : A.handled = none) (hl : s.heap.IsList l items) (hit : IntsAre items.toList ns) (hb : ns.length + 1 < scanBound)
    (h : ∀ (h' : Heap) (tk c : Nat), SetR w h' s.heap.objs.size (fun j => decide (j ∈ ns)) c → (∀ b o, s.heap.get? b = some o → h'.get? b = some o) → Q (.ref s.heap.objs.size) { s with heap := h', toks := tk }) :
    wpAny (model P w) A (call (.type "set") [.ref l]) Q E s := by
  have sz : items.size = ns.length := by
    have q := IntsAre.length hit
    rw [Array.length_toList] at q
    exact q
  obtain ⟨c, tl, mro⟩ := F.called_set.mro
  have made := F.called_set.made
  have sub := F.called_set.sub
  refine wpAny_call (codeAny_of_tree ?_)
  show wpAny _ _ (callAny (.type "set") _) _ _ _
  refine wpAny_pure ⟨Code.quiet_builtin _ (by decide +kernel), codeAny_builtin F.entry_type_call ?_⟩
  rw [Around.under_plain (weight_type_call_type "set" [.ref l] []) rfl]
  have n1 := F.called_set.notType
  have n2 := F.called_set.canCreate
  have n3 := F.typeCall_set_1 (.ref l)
  repeat any_goals first | assumption | wp_step
  generalize hN : s.heap.push (emptySet w) = hN1
  have oS : hN1.get? s.heap.objs.size = some (emptySet w) := by rw [← hN]; exact Heap.get?_push_size _ rfl
  have old : ∀ b o, s.heap.get? b = some o → hN1.get? b = some o := fun b o e => by rw [← hN]; exact Heap.get?_push_of_some _ e
  have zN : hN1.objs.size = s.heap.objs.size + 1 := by rw [← hN]; exact Heap.size_push ..
  refine codeAny_mono (code_set_led1 (.ref l) (E := E) (Q₁ := fun obj s1 => obj = .ref s.heap.objs.size ∧ s1 = { s with heap := hN1 }) ⟨rfl, by rw [← hN]⟩) fun r s1 hr => ?_
  cases r with
  | error e => exact hr
  | ok fl =>
    cases fl with
    | ret obj =>
      obtain ⟨rfl, rfl⟩ := hr
      have tS : Shared.TypeIs { s with heap := hN1 } (.ref s.heap.objs.size) "set" := ⟨_, oS, rfl⟩
      have i1 := F.called_set.init.lookup
      have i2 := F.called_set.init.bind (.ref s.heap.objs.size)
      repeat any_goals first | assumption | wp_step
      refine codeAny_mono (codeAny_call_builtin (R := wants (fun r s2 => r = .none ∧ ∃ h' tk c, s2 = { s with heap := h', toks := tk } ∧ SetR w h' s.heap.objs.size (fun j => decide (j ∈ ns)) c ∧ (∀ b o, s.heap.get? b = some o → h'.get? b = some o)) E)
        F.called_set.init.plain F.entry_set_init (check_set_init_1 tS ?_)) fun r2 s2 hr2 => ?_
      · obtain ⟨ol, hol, hcl, nl, hdl⟩ := hl
        obtain ⟨ocls, odict, odata, oslots⟩ := ol
        dsimp only at hcl hdl
        subst hcl hdl
        have ol1 := old _ _ hol
        have x1 := F.sub_list_set
        have x2 := F.sub_list_frozenset
        have x3 : (Value.type "list" == Value.type "dict") = false := by decide
        have l1 : hN1.IsList l items := ⟨_, ol1, rfl, nl, rfl⟩
        unfold Builtin.«set.__init__» noKeywords Builtin.Frozenset.updateFrom
        generalize hPI : pyIter = PI
        wp_walk
        subst hPI
        refine wpAny_pyIter_list l1 (wpAny_bind (wpAny_runValue ?_))
        have lS : l < s.heap.objs.size := Heap.lt_size hol
        have ne1 : l ≠ hN1.objs.size := by rw [zN]; exact Nat.ne_of_lt (Nat.lt_succ_of_lt lS)
        have ne2 : s.heap.objs.size ∉ [hN1.objs.size, l] := by
          rw [zN]
          simp only [List.mem_cons, List.not_mem_nil, or_false, not_or]
          exact ⟨Nat.ne_of_lt (Nat.lt_succ_self _), Nat.ne_of_gt lS⟩
        refine set_update_ints ((Walks.list (by simp [hh]) _ l ne1 items).toS) s.heap.objs.size ne2 ns sz hb (fun i v hv => ?_) (items.size - 0) 0 _ rfl (Nat.zero_le _)
          ⟨⟨_, Heap.get?_push_size _ rfl, rfl, rfl⟩, l1.push _⟩ ⟨0, Nat.le_refl _, setR_new_at (Heap.get?_push_of_some _ oS)⟩ fun s' c hm hc S2 => ?_
        · have hi : i < ns.length := by rw [← sz]; exact (Array.getElem?_eq_some_iff.mp hv).1
          obtain ⟨t, e⟩ := PyProof.Rows.IntsAre.int_at hit i v (by rw [Array.getElem?_toList]; exact hv)
          exact ⟨ns[i], t, List.getElem?_eq_getElem hi, by rw [e, List.getD_eq_getElem?_getD, List.getElem?_eq_getElem hi]; rfl⟩
        · have kp : ∀ b o, s.heap.get? b = some o → s'.heap.get? b = some o := fun b o e => by
            have hb := Heap.lt_size e
            refine hm.heap b o (fun z => ?_) (Heap.get?_push_of_some _ (old b o e))
            rcases List.mem_cons.mp z with z | z
            · rw [z] at hb; exact Nat.lt_irrefl _ hb
            · exact absurd hb (by rw [List.mem_singleton.mp z]; exact Nat.not_lt.mpr (by show s.heap.objs.size ≤ hN1.objs.size; rw [zN]; exact Nat.le_succ _))
          obtain ⟨h', g2, d', tk', os'⟩ := s'
          obtain rfl : g2 = s.gens := hm.gens
          obtain rfl : d' = s.drawn := hm.drawn
          obtain rfl : os' = s.os := hm.os
          exact wpAny_pure (wpAny_pure ⟨rfl, h', tk', c, rfl, S2, kp⟩)
      · cases r2 with
        | error e => exact hr2
        | ok fl2 =>
          cases fl2 with
          | ret v2 =>
            obtain ⟨rfl, h', tk, c, rfl, S2, kp⟩ := hr2
            repeat any_goals first | assumption | wp_step
            exact h h' tk c S2 kp
          | _ => exact hr2.elim
    | _ => exact hr.elim
end
section
variable {X : Cx}
def rMakeI (X : Cx) : List V → Hp → VK → Prop := fun xs H Q => ∃ (l : Addr) (ns M : List Int), xs = [V.ref l] ∧ SqL X.K H l (ns.map V.int) ∧ ns.length + 1 < scanBound ∧ (∀ x ∈ ns, x ∈ M) ∧ ∀ a c, H a = none → c ≤ M.length → Q (.ref a) (upd H a (L2.SetO X.w a (fun j => decide (j ∈ ns)) c))
theorem cr_makeI (hc : X.calm = true) : CallR X (.type "set") (rMakeI X) := by
  intro pins s σ H xs us Q I r h
  obtain ⟨l, ns, M, rfl, hl, hz, hM, q⟩ := h
  rw [Vals.ref1 r]
  obtain ⟨its, rv, pl, _⟩ := I.list hl
  have hn : H s.heap.objs.size = none := I.hok.fresh (Nat.le_refl _)
  refine call_setI (ns := ns) (I.ok.hd hc) pl.isList (by simpa using rv.ints) hz fun h' tk c R kp => ?_
  exact ⟨.ref s.heap.objs.size, _, I.laid (t' := tk) kp (Nat.le_refl _) (L2.setO_new R), rfl, q _ c hn (setR_count R hM)⟩
theorem sortedSetI {H0 : Bs} {ρ : DL.Env} {e : Expr} {p1 p2 p3 p4 : Pos} {ns ys M : List Int} (bt : Bt X.mg) (hc : X.calm = true) (hz : ns.length ≤ 1000) (hM : ∀ x ∈ ns, x ∈ M) (hM2 : M.length < 64) (hup : ys.Pairwise (· < ·)) (hm : ∀ a, a ∈ ys ↔ a ∈ ns) (ha : DR X H0 ρ e (ns.map .int))
    (hg : Gl X "sorted" := by rfl) (hg2 : Gl X "set" := by rfl) (he : starEach (e :: []) X.env = (false, eval e X.env) :: starEach [] X.env := by rfl) (hpl : (backTo p3 (starEach [] X.env)).any (·.1) = false := by rfl)
    (he2 : starEach ((.Call (.Name "set" p2) [e] [] p3) :: []) X.env = (false, eval (.Call (.Name "set" p2) [e] [] p3) X.env) :: starEach [] X.env := by rfl) (hpl2 : (backTo p4 (starEach [] X.env)).any (·.1) = false := by rfl) :
    DL X H0 ρ (.Call (.Name "sorted" p1) [.Call (.Name "set" p2) [e] [] p3] [] p4) (ys.map .int) := by
  refine (pe_callB (cr_sortedSet hc) hg (bt.at _) (by decide +kernel) (pa_one (pe_callTy (cr_makeI hc) hg2 (bt.at _) (by decide +kernel) (pa_one ha he) (by decide) (by decide) he hpl) he2) (by decide) (by decide) he2 hpl2).imp fun σ H Q ⟨G, x, sl, q⟩ => ⟨G, x, sl, fun p vs G1 H1 y h rs => ?_⟩
  refine ⟨p, ns, M, rfl, by rw [← dpAll_ints rs]; exact h, by unfold scanBound; omega, hM, fun a c hn hcM => ?_⟩
  have x2 : Ext G1 H1 G1 (upd H1 a (L2.SetO X.w a (fun j => decide (j ∈ ns)) c)) := Ext.heap y.gh (Ex.new hn)
  refine ⟨a, _, c, rfl, upd_same, by omega, fun ms p pw mem _ hp => ?_⟩
  have e : ms = ys := by
    refine List.Perm.eq_of_pairwise (le := (· < ·)) (fun a b _ _ h1 h2 => by omega) pw hup ?_
    exact (List.perm_ext_iff_of_nodup (pw.imp fun h => Int.ne_of_lt h) (hup.imp fun h => Int.ne_of_lt h)).mpr fun z => by rw [mem, decide_eq_true_eq, hm]
  subst e
  have all : ∀ l : List Int, DpAll X.K G1 (l.map V.int) (l.map .int) := fun l => by
    induction l with
    | nil => exact .nil
    | cons x r ih => exact .cons (.int x) ih
  exact q p _ G1 _ ((y.trans x2).trans (Ext.heap x2.gh (Ex.new hp))) (y.h.back (x2.h.back hp)) (x2.gh.back hp) upd_same (all ms)
end
end LS
/-! DL24: lists unpacked; lists joined with changing ones; compared. -/
namespace DL
open PySem PySem.Spec PyProof.Rows L2
section
variable {X : Cx} {F : Fr0} {E : Fam} {H0 : Bs} {ρ ρ1 : Env} {a b : Expr} {es : List Expr} {ds xs : List D} {d db : D} {js : List Nat} {pos p1 p2 : Pos} {x : Str} {i k : Nat} {Ss : List D → Prop} {T : Bool → Prop}
theorem dg_unl {k : Nat} (hc : X.calm = true) (h : DGs X H0 ρ es ds ρ1 js) (hn : (assignEach es X.env).length = ds.length := by rfl) (hst : (assignEach es X.env).findIdx? (·.1) = none := by rfl) : DG X H0 ρ (.Tuple es k pos) (.list ds) ρ1 js :=
  (pg_unl hc h hn hst).imp fun v σ H Q ⟨G, x, sl, r, q⟩ => by
    obtain ⟨a, xs, rfl, h1, h2⟩ := dp_lst r
    exact ⟨a, xs, rfl, x.seqL h1, h2.length, G, x, sl, h2, q⟩
theorem neNile (hr : Room k X.A) (h : PyData.plainAll xs = true) (ha : DR X H0 ρ a xs) (hm : behindInMarks .NotEq (.List [] p2) = false := by first | exact nomark _ | rfl) : DE X H0 ρ (.Compare a [.NotEq] [.List [] p2] pos) (.bool (!xs.isEmpty)) :=
  de_to (de_cmpL (op_neP hr.units) (od_neL h rfl (.inr (Nat.le_of_ble_eq_true rfl))) ha (dl_e (dl_lst da_nil)) hm) (by rw [eqv_nil])
theorem dlx_catO (i : Nat) (hi : ∀ x k, (E x k)[i]? = some (.own ds)) (hb : PE X b (tXL X.K F E Ss)) (hz : ∀ l, Ss l → ds.length + l.length ≤ 100000) (hN : X.N[i]? = some x := by rfl) (hv : Vis X.env.scope x := by first | exact Or.inl rfl | exact Or.inr (Or.inl rfl) | exact Or.inr (Or.inr rfl)) (hd : (x == ("__debug__" : Str)) = false := by decide)
    (hcd : (x == ("__classdict__" : Str)) = false := by decide) : PE X (.BinOp (.Name x p1) .Add b pos) (tXL X.K F E fun l => ∃ l', Ss l' ∧ l = ds ++ l') :=
  (pe_op op_cat (pv i hN hv hd hcd) hb).imp fun σ H Q ⟨x0, k0, G, ex, sl, q⟩ => by
    obtain ⟨r, vs, hq, _, _, _, _⟩ := sl.own i ds _ (hi x0 k0)
    refine ⟨.ref r, hq, x0, k0, G, ex, sl, fun r2 ws l' x1 k1 G1 H1 s1 e1 g1 sl1 h0 na hg hh r1 => ?_⟩
    obtain ⟨r', vs', hq', _, _, hh', rr⟩ := sl1.own i ds _ (hi x1 k1)
    rw [hq] at hq'
    cases hq'
    refine ⟨r, r2, vs', ws, rfl, rfl, hh', hh, by rw [rr.length, r1.length]; exact Nat.le_trans (hz l' s1) (by decide), fun p hp => ?_⟩
    have y : Ext G1 H1 G1 (upd H1 p (.lst (vs' ++ ws))) := Ext.heap e1.gh (Ex.new hp)
    exact q p _ _ x1 k1 G1 _ ⟨l', s1, rfl⟩ (e1.trans y) g1 (sl1.up y) (e1.h.back hp) (NoAl.of sl1 hp) (e1.gh.back hp) upd_same (rr.app r1)
theorem dxt_neXL (hr : Room k X.A) (ha : PE X a (tXL X.K F E Ss)) (hb : ∀ x k, DE X F.H0 (E x k) b db) (h : ∀ l, Ss l → PyData.plainAll l = true ∧ T (!PyData.eqv (.list l) db)) (hp : db.plain = true) (hd : db.depth ≤ 50) (hm : behindInMarks .NotEq b = false := by first | exact nomark _ | rfl) : DXt X F E (.Compare a [.NotEq] [b] pos) T :=
  (pt_cmpR (op_neP hr.units) ha (⟨fun pins s σ H Q I ⟨x, k, q⟩ => (hb x k).run pins s σ H Q I q⟩ : PE X b (fun σ H Q => ∃ x k, tD X.K F.H0 (E x k) db σ H Q)) hm).imp fun σ H Q ⟨x, k, G, ex, sl, q⟩ => ⟨x, k, G, ex, sl, fun p vs l x1 k1 G1 H1 s1 e1 g1 sl1 h0 na hg hh r1 => ⟨x1, k1, G1, e1.gh, sl1, fun u G2 H2 y r2 => by
    obtain ⟨h1, h2⟩ := h l s1
    exact ⟨.list l, db, .lst (.inl (.inl (y.h _ _ hh))) (r1.up (y.g.trans y.gh)), r2.up y.gh, h1, hp, .inr hd, _, rfl, q _ x1 k1 G2 H2 h2 (e1.trans y) (g1.trans y.g) (sl1.up y)⟩⟩⟩
/-- x, y = data, a new list: plain local names -/
theorem ds_parDL {i j : Nat} {x y : Str} {px py pt : Pos} {kt k2 pt2} {d1 : D} {rest : List Stmt} {N : DEnd} (ha : DE X F.H0 ρ a d1) (hb : DL X F.H0 ρ b ds) (hr : DS X F ((ρ.set i (.dat d1)).set j (.own ds)) rest N) (hc : X.calm = true) (hN : X.N.Nodup) (hi : X.N[i]? = some x := by rfl) (hj : X.N[j]? = some y := by rfl) (hij : i ≠ j := by decide)
    (hx : X.env.scope.names.lookup x = some .local := by rfl) (hy : X.env.scope.names.lookup y = some .local := by rfl)
    (hw : swappedStores [.Tuple [.Name x px, .Name y py] kt pt] (.Tuple [a, b] k2 pt2) X.env = pure (some [x, y]) := by rfl)
    (hs : swapsWithSole [.Tuple [.Name x px, .Name y py] kt pt] (.Tuple [a, b] k2 pt2) pos.line X.env = pure false := by rfl)
    (hs1 : starEach (a :: [b]) X.env = (false, eval a X.env) :: starEach [b] X.env := by rfl) (hs2 : starEach (b :: []) X.env = (false, eval b X.env) :: starEach [] X.env := by rfl) :
    DS X F ρ (.Assign [.Tuple [.Name x px, .Name y py] kt pt] (.Tuple [a, b] k2 pt2) pos :: rest) N :=
  (pss_cons (ps_par hc hN hi hj hij hx hy (pa_cons ha (pa_cons hb pa_nil hs2) hs1) hw hs) hr).imp fun D σ H ⟨G, x, sl, aa⟩ => ⟨G, x.gh, sl, fun v G1 H1 y r => by
    refine ⟨G1, y.gh, sl.up y, fun q2 vs2 G2 H2 z m m1 hq2 r2 => ⟨v, .ref q2, rfl, tS_up (D := D) ((x.trans y).trans z) (y.g.trans z.g) ?_ aa⟩⟩
    exact (((sl.up y).up z).setD (i := i) (r.up z.g)).setO (i := j) (p9 := none) ((x.trans y).h.back m) m1 hq2 r2 (((sl.up y).setD (i := i) r).free m)⟩
/-- x, y, z = data, data, a new list: plain local names -/
theorem ds_par3L {i j l : Nat} {c : Expr} {x y z : Str} {px py pz pt : Pos} {kt k2 pt2} {d1 d2 : D} {rest : List Stmt} {N : DEnd} (ha : DE X F.H0 ρ a d1) (hb : DE X F.H0 ρ b d2) (hcl : DL X F.H0 ρ c ds) (hr : DS X F (((ρ.set i (.dat d1)).set j (.dat d2)).set l (.own ds)) rest N) (hc : X.calm = true) (hN : X.N.Nodup) (hi : X.N[i]? = some x := by rfl) (hj : X.N[j]? = some y := by rfl) (hl : X.N[l]? = some z := by rfl) (hij : i ≠ j := by decide) (hil : i ≠ l := by decide) (hjl : j ≠ l := by decide)
    (hx : X.env.scope.names.lookup x = some .local := by rfl) (hy : X.env.scope.names.lookup y = some .local := by rfl) (hz : X.env.scope.names.lookup z = some .local := by rfl)
    (hw : swappedStores [.Tuple [.Name x px, .Name y py, .Name z pz] kt pt] (.Tuple [a, b, c] k2 pt2) X.env = pure (some [x, y, z]) := by rfl)
    (hs : swapsWithSole [.Tuple [.Name x px, .Name y py, .Name z pz] kt pt] (.Tuple [a, b, c] k2 pt2) pos.line X.env = pure false := by rfl)
    (hs1 : starEach (a :: [b, c]) X.env = (false, eval a X.env) :: starEach [b, c] X.env := by rfl) (hs2 : starEach (b :: [c]) X.env = (false, eval b X.env) :: starEach [c] X.env := by rfl) (hs3 : starEach (c :: []) X.env = (false, eval c X.env) :: starEach [] X.env := by rfl) :
    DS X F ρ (.Assign [.Tuple [.Name x px, .Name y py, .Name z pz] kt pt] (.Tuple [a, b, c] k2 pt2) pos :: rest) N :=
  (pss_cons (ps_par3 hc hN hi hj hl hij hil hjl hx hy hz (pa_cons ha (pa_cons hb (pa_cons hcl pa_nil hs3) hs2) hs1) hw hs) hr).imp fun D σ H ⟨G, x, sl, aa⟩ => ⟨G, x.gh, sl, fun v G1 H1 y r => ⟨G1, y.gh, sl.up y, fun u G0 H0 y0 r0 => by
    have y1 := y.trans y0
    refine ⟨G0, y0.gh, sl.up y1, fun q2 vs2 G2 H2 z m m1 hq2 r2 => ⟨v, u, .ref q2, rfl, tS_up (D := D) ((x.trans y1).trans z) (y1.g.trans z.g) ?_ aa⟩⟩
    exact ((((sl.up y1).up z).setD (i := i) (r.up (y0.trans z).g)).setD (i := j) (r0.up z.g)).setO (i := l) (p9 := none) ((x.trans y1).h.back m) m1 hq2 r2 ((((sl.up y1).setD (i := i) (r.up y0.g)).setD (i := j) r0).free m)⟩⟩
end
end DL
/-! DL25: lists that are read, joined. -/
namespace DL
open PySem PySem.Spec PyProof.Rows L2
def rCatR (K : PySem.W.Frag) : R2 := fun x y H Q => ∃ l b xs zs, x = .ref l ∧ y = .ref b ∧ SqL K H l xs ∧ SqL K H b zs ∧ xs.length + zs.length ≤ sizeLine ∧ ∀ p, H p = none → Q (.ref p) (upd H p (.lst (xs ++ zs)))
section
variable {X : Cx} {H0 : Bs} {ρ : Env} {a b : Expr} {ds es : List D} {pos : Pos}
theorem op_catR : OpR X (binaryOp .Add) (rCatR X.K) := by
  rintro pins s σ H x y v u Q I rx ry ⟨l, b, xs, zs, rfl, rfl, hl, hb, hz, q⟩
  cases rx
  cases ry
  obtain ⟨its, r, p1, z1⟩ := I.list hl
  obtain ⟨its2, r2, p2, z2⟩ := I.list hb
  obtain ⟨⟨cls, dd, data, sl⟩, ho, hc, n, hd⟩ := p1.isList
  obtain ⟨⟨cls2, dd2, data2, sl2⟩, ho2, hc2, n2, hd2⟩ := p2.isList
  dsimp only at hc hd hc2 hd2
  subst hc hd hc2 hd2
  have e1 := r.length
  have e2 := r2.length
  have ez : its.toArray ++ its2.toArray = (its ++ its2).toArray := by simp
  refine concat_meets ⟨_, ho, rfl⟩ ⟨_, ho2, rfl⟩ noFill_list_add seq_list_add PySem.F.slot_list_add PySem.F.entry_list_add (PySem.F.args_list_add_2 _ _) (list_addW l b its.toArray its2.toArray n n2 dd dd2 sl sl2 (by rw [List.size_toArray, List.size_toArray]; omega)) ⟨ho, ho2, ?_⟩
  rw [ez]
  exact ⟨.ref _, _, I.lnew (t' := s.toks) (r.append r2) (by rw [List.length_append]; omega), rfl, q _ I.fresh⟩
theorem dl_catR (ha : DR X H0 ρ a ds) (hb : DR X H0 ρ b es) (hz : ds.length + es.length ≤ 100000) : DL X H0 ρ (.BinOp a .Add b pos) (ds ++ es) :=
  (pe_op op_catR ha hb).imp fun σ H Q ⟨G, x, sl, q⟩ => ⟨G, x, sl, fun p vs G1 H1 y1 h1 r1 => ⟨G1, y1.gh, sl.up y1, fun p2 ws G2 H2 y2 h2 r2 =>
    ⟨p, p2, vs, ws, rfl, rfl, y2.h.seqL h1, h2, by rw [r1.length, r2.length]; exact Nat.le_trans hz (by decide), fun l hl => q l _ G2 _ ((y1.trans y2).trans (Ext.heap y2.gh (Ex.new hl))) ((y1.trans y2).h.back hl) (y2.gh.back hl) upd_same ((r1.up y2.g).app r2)⟩⟩⟩
end
end DL
/-! S9: ridges that may be lower. -/
namespace LP
open PySem PySem.Spec PyProof.Rows L2 DL
noncomputable def withAll (d b a h : D) (f : Sh → List Int → List Int → Int → Out) : Out := withBoth d b a fun s b a => if isWholeD h 0 9 then f s b a (intOf h) else .err "BadHeight"
theorem all_ok {d b a h x : D} (hx : withAll d b a h (fun _ _ _ _ => .ok .none) = .ok x) : ∃ s nb na, ∃ n : Int, d = shT s ∧ b = intsD nb ∧ a = intsD na ∧ h = .int n ∧ (0 ≤ n ∧ n ≤ 9) ∧ Good s ∧ NOk s nb ∧ NOk s na ∧ ∀ f, withAll (shT s) (intsD nb) (intsD na) (.int n) f = f s nb na n := by
  cases hb : bothErr d b a with
  | some m => unfold withAll withBoth at hx; rw [hb] at hx; cases hx
  | none =>
    obtain ⟨s, nb, na, rfl, rfl, rfl, g, ob, oa, hf⟩ := both_ok (x := .none) (d := d) (b := b) (a := a) (by rw [hb]; rfl)
    by_cases hw : isWholeD h 0 9 = true
    · obtain ⟨e, h1⟩ := whole_int hw
      refine ⟨s, nb, na, intOf h, rfl, rfl, rfl, e, h1, g, ob, oa, fun f => ?_⟩
      unfold withAll
      rw [hf, ← e, if_pos hw]
    · rw [Bool.not_eq_true] at hw
      unfold withAll at hx
      rw [hf, hw] at hx; cases hx
theorem all_err {d b a h : D} {n : Str} {f : Sh → List Int → List Int → Int → Out} (hn : withAll d b a h (fun _ _ _ _ => .ok .none) = .err n) : withAll d b a h f = .err n := by
  unfold withAll withBoth at hn ⊢
  cases hb : bothErr d b a with
  | some m => rw [hb] at hn; exact hn
  | none =>
    rw [hb] at hn
    dsimp only at hn ⊢
    by_cases hw : isWholeD h 0 9 = true
    · rw [hw] at hn; cases hn
    · rw [Bool.not_eq_true] at hw; rw [hw] at hn ⊢; exact hn
theorem withAll_ok {s : Sh} {nb na : List Int} {n : Int} {f : Sh → List Int → List Int → Int → Out} (h : isShoreD (shT s) = true) (hb : NOk s nb) (ha : NOk s na) (h0 : 0 ≤ n) (h9 : n ≤ 9) : withAll (shT s) (intsD nb) (intsD na) (.int n) f = f s nb na n := by
  have hw : isWholeD (.int n) 0 9 = true := by simp only [isWholeD, Bool.and_eq_true, decide_eq_true_eq]; exact ⟨h0, h9⟩
  unfold withAll
  rw [withBoth_ok h hb ha, hw]; rfl
def lstD (l : List Int) : D := .list (l.map .int)
noncomputable def mostD (s : Sh) (b a : List Int) (h : Int) (n : Nat) : D := if FolS (woS s n) b a h = true then .int 9 else if FolS (lowS s [(n : Int)]) b a h = true then .int h else .none
/-- the ridges above the water -/
def someL (s : Sh) (h : Int) : List Int := (s.2.zipIdx.filter fun z => decide (h < z.1.2.2)).map fun z => ((z.2 : Nat) : Int)
theorem someL_up (s : Sh) (h : Int) : (someL s h).Pairwise (· < ·) := by
  unfold someL
  rw [List.pairwise_map]
  refine List.Pairwise.filter _ ?_
  have h2 : (s.2.zipIdx.map Prod.snd).Pairwise (· < ·) := by
    rw [List.zipIdx_map_snd]
    exact List.pairwise_lt_range'
  rw [List.pairwise_map] at h2
  exact h2.imp fun {a b} q => by omega
theorem someL_len (s : Sh) (h : Int) : (someL s h).length ≤ s.2.length := by
  unfold someL
  rw [List.length_map]
  exact Nat.le_trans (List.length_filter_le _ _) (by rw [List.length_zipIdx]; exact Nat.le_refl _)
noncomputable def goodB (s : Sh) (b a : List Int) (h : Int) (c : List Int) : Bool := FolS (lowS s c) b a h
noncomputable def openedL (s : Sh) (b a : List Int) (h : Int) : List (List Int) := (cands (someL s h)).filter (leastG (goodB s b a h) (cands (someL s h)))
theorem lsts_plain (l : List (List Int)) : PyData.plainAll (l.map lstD) = true := pl_ty l
theorem cands_len (xs : List Int) : (cands xs).length ≤ (xs.length + 1) * 2 ^ xs.length := by
  unfold cands
  have : ∀ n, ((List.range n).flatMap fun k => chosenL k xs).length ≤ n * 2 ^ xs.length := fun n => by
    induction n with
    | zero => exact Nat.zero_le _
    | succ n ih =>
      have := chosen_len (k := n) (xs := xs)
      rw [List.range_succ, List.flatMap_append, List.length_append, List.flatMap_cons, List.flatMap_nil, List.append_nil, Nat.succ_mul]; omega
  exact this _
section
variable {P : Program} {w : World} {K : PySem.W.Frag} {mg : Str → Option Value} {base : Heap}
abbrev spNeedAll (K : PySem.W.Frag) (mg : Str → Option Value) : Sp := spD K mg (α := D × D × D × D) (fun a => [a.1, a.2.1, a.2.2.1, a.2.2.2]) (fun a => tameShore a.1) (fun a => withAll a.1 a.2.1 a.2.2.1 a.2.2.2 fun _ _ _ _ => .ok .none)
abbrev spNeedRidge (K : PySem.W.Frag) (mg : Str → Option Value) : Sp := spD K mg (α := Sh × D) (fun a => [shT a.1, a.2]) (fun a => a.1.2.length ≤ 1000) (fun a => if isWholeD a.2 0 ((a.1.2.length : Int) - 1) then .ok .none else .err "BadLot")
abbrev spWithLow (K : PySem.W.Frag) (mg : Str → Option Value) : Sp := spD K mg (α := Sh × List Int) (fun a => [shT a.1, lstD a.2]) (fun a => a.1.2.length ≤ 1000) (fun a => .ok (shT (lowS a.1 a.2)))
abbrev spWithout (K : PySem.W.Frag) (mg : Str → Option Value) : Sp := spD K mg (α := Sh × Nat) (fun a => [shT a.1, .int a.2]) (fun a => a.1.2.length ≤ 1000) (fun a => .ok (shT (woS a.1 a.2)))
theorem wh_nat {d : D} {m : Nat} (h : isWholeD d 0 ((m : Int) - 1) = true) : ∃ n : Nat, d = .int (n : Int) ∧ n < m := by
  obtain ⟨e, h1, h2⟩ := whole_int h
  exact ⟨(intOf d).toNat, by rw [show (((intOf d).toNat : Nat) : Int) = intOf d by omega]; exact e, by omega⟩
abbrev spMost (K : PySem.W.Frag) (mg : Str → Option Value) : Sp := spD K mg (α := D × D × D × D × D) (fun a => [a.1, a.2.1, a.2.2.1, a.2.2.2.1, a.2.2.2.2]) (fun a => tameShore a.1) (fun a => withAll a.1 a.2.1 a.2.2.1 a.2.2.2.1 fun s b c h => if isWholeD a.2.2.2.2 0 ((s.2.length : Int) - 1) then .ok (mostD s b c h (intOf a.2.2.2.2).toNat) else .err "BadLot")
abbrev spMust (K : PySem.W.Frag) (mg : Str → Option Value) : Sp := spD K mg (α := D × D × D × D × D) (fun a => [a.1, a.2.1, a.2.2.1, a.2.2.2.1, a.2.2.2.2]) (fun a => tameShore a.1) (fun a => withAll a.1 a.2.1 a.2.2.1 a.2.2.2.1 fun s b c h => if isWholeD a.2.2.2.2 0 ((s.2.length : Int) - 1) then .ok (.bool (!FolS (woS s (intOf a.2.2.2.2).toNat) b c h && FolS (lowS s [intOf a.2.2.2.2]) b c h)) else .err "BadLot")
abbrev spChosen (n : Nat) (K : PySem.W.Frag) (mg : Str → Option Value) : Sp := spD K mg (α := List Int × Nat) (fun a => [lstD a.1, .int a.2]) (fun a => a.2 ≤ n ∧ a.1.length ≤ 10) (fun a => .ok (.list ((chosenL a.2 a.1).map lstD)))
theorem k_chosen (T : Tx K mg) : ∀ n : Nat, DefOk P w K mg base (n + 1) "chosen" p_chosen (spChosen n K mg) := by
  --@ if chosen
  intro n
  induction n with
  | zero =>
    refine T.d_chosen.ok sc_chosen (fun _ => rfl) fun ⟨xs, k⟩ ⟨hk, hl⟩ f cdv A outer sh H G E hr tk hp => ?_
    have hk : k ≤ 0 := hk
    obtain rfl : k = 0 := by omega
    refine ds_ifT (eqI hr (v 1) de_int) (ds_ret (dl_e (dl_lst (da_cons (dl_e (dl_lst da_nil)) da_nil))) ?_) (by rfl)
    show Out.ok (.list ((chosenL 0 xs).map lstD)) = _
    rw [show chosenL 0 xs = [[]] by cases xs <;> rfl]; rfl
  | succ n ih =>
    refine T.d_chosen.ok sc_chosen (fun _ => rfl) fun ⟨xs, k⟩ ⟨hk, hl⟩ f cdv A outer sh H G E hr tk hp => ?_
    have hk : k ≤ n + 1 := hk
    have hl : xs.length ≤ 10 := hl
    have bt := T.bt
    have nd := sc_chosen.nd
    cases k with
    | zero =>
      refine ds_ifT (eqI hr (v 1) de_int) (ds_ret (dl_e (dl_lst (da_cons (dl_e (dl_lst da_nil)) da_nil))) ?_) (by rfl)
      show Out.ok (.list ((chosenL 0 xs).map lstD)) = _
      rw [show chosenL 0 xs = [[]] by cases xs <;> rfl]; rfl
    | succ k =>
      refine ds_ifF (eqI hr (v 1) de_int) ?_ (decide_eq_false (by omega))
      refine ds_setL (i := 2) (dl_lst da_nil) ?_ nd
      refine ds_for (items := xs.zipIdx.map fun z => .tuple [.int (z.2 : Nat), .int z.1]) (fun i ρ => ∃ a3 a4 l, ρ = [.dat (lstD xs), .dat (.int ((k + 1 : Nat) : Int)), .own l, a3, a4, .un] ∧ ∃ X : List (List Int), l = X.map lstD ∧ X ++ chosenL (k + 1) (xs.drop i) = chosenL (k + 1) xs) (fun ρ => ∃ a3 a4, ρ = [.dat (lstD xs), .dat (.int ((k + 1 : Nat) : Int)), .own ((chosenL (k + 1) xs).map lstD), a3, a4, .un]) (di_to (enumL bt (v 0)) (by rw [List.zipIdx_map, List.map_map]; rfl)) ⟨_, _, _, rfl, [], rfl, rfl⟩ ?_ (fun ρ' ⟨a3, a4, l, e, X, e1, e2⟩ => ⟨a3, a4, ?_⟩) ?_ hp rfl
      · rintro i d ρ' hd ⟨a3, a4, l, rfl, X, rfl, hX⟩
        rw [List.getElem?_map, List.getElem?_zipIdx] at hd
        cases hx : xs[i]? with
        | none => rw [hx] at hd; cases hd
        | some x =>
          rw [hx] at hd
          simp only [Option.map_some, Nat.zero_add, Option.some.injEq] at hd
          subst hd
          refine ⟨_, _, dg_tup rfl (dgs_cons (dg_name (i := 3) nd) (dgs_cons (dg_name (i := 4) nd) dgs_nil)), ?_⟩
          have hdr : xs.drop i = x :: xs.drop (i + 1) := by
            rw [List.drop_eq_getElem?_toList_append, hx]; rfl
          have hXl : X.length + (chosenL k (xs.drop (i + 1))).length ≤ 1024 := by
            have h1 := congrArg List.length hX
            have h2 := chosen_len (k := k + 1) (xs := xs)
            have h3 : 2 ^ xs.length ≤ 2 ^ 10 := Nat.pow_le_pow_right (by decide) hl
            rw [hdr] at h1
            rw [List.length_append, show chosenL (k + 1) (x :: xs.drop (i + 1)) = (chosenL k (xs.drop (i + 1))).map (x :: ·) ++ chosenL (k + 1) (xs.drop (i + 1)) from rfl, List.length_append, List.length_map] at h1
            omega
          refine ds_setL (i := 2) (dl_cat (dm_own 2) (dm_new (dl_map (xs := chosenL k (xs.drop (i + 1))) (enc := lstD) (own := [("rest", 5)]) (fun l => lstD (x :: l)) rfl nd (di_list (de_call ih (xs.drop (i + 1), k) hr (da_cons (dl_e (dl_to (dl_slR (l := some ((i + 1 : Nat) : Int)) (u := none) (de_r (v 0)) (do_some (de_to (d := .int ((i : Int) + 1)) (de_bin op_add od_add (v 3) de_int) rfl)) do_none) (by rw [cutN, List.map_drop]))) (da_cons (de_to (d := .int (((k + 1 : Nat) : Int) - 1)) (de_bin op_sub od_sub (v 1) de_int) (by congr 1; omega)) da_nil)) ⟨by show k ≤ n; omega, by show (xs.drop (i + 1)).length ≤ 10; rw [List.length_drop]; omega⟩ rfl rfl)) (blkOk_by (N := n_chosen) (sc := defScope s_chosen) (by decide +kernel)) (by omega) fun l hlm => ?_)) ?_) (ds_nil ⟨_, _, _, rfl, X ++ (chosenL k (xs.drop (i + 1))).map (x :: ·), ?_, ?_⟩) nd
          · refine ⟨_, _, fun j h => h, fun s' H C cl fp => ⟨dg_name (i := 5) nd, dts_nil, fun _ => dl_e (dl_catR (dl_r (dl_lst (da_cons (v 4) da_nil))) (de_r (v 5)) ?_)⟩⟩
            have := ((mem_chosenL.mp hlm).1).length_le
            rw [List.length_drop] at this
            rw [List.length_singleton, List.length_map]; omega
          · rw [List.length_map, List.length_map]; omega
          · rw [List.map_append, List.map_map]; rfl
          · rw [List.append_assoc]
            rw [hdr] at hX
            exact hX
      · rw [List.length_map, List.length_zipIdx, List.drop_length, show chosenL (k + 1) [] = [] from rfl, List.append_nil] at e2
        rw [e, e1, e2]
      · rintro ρ' ⟨a3, a4, rfl⟩
        refine ds_settle 2 rfl ?_
        exact ds_ret (v 2) rfl
abbrev spOpened (K : PySem.W.Frag) (mg : Str → Option Value) : Sp := spD K mg (α := D × D × D × D) (fun a => [a.1, a.2.1, a.2.2.1, a.2.2.2]) (fun a => tameShore a.1) (fun a => withAll a.1 a.2.1 a.2.2.1 a.2.2.2 fun s b c h => .ok (.list ((openedL s b c h).map lstD)))
end
end LP
/-! P10: plain: classes counted; ridges chosen; the tree. -/
namespace LP
open PySem PySem.Spec PyProof.Rows L2 DL
open Classical in
/-- how many classes -/
noncomputable def clsN {α : Type} (R : α → α → Prop) : List α → Nat
  | [] => 0
  | v :: vs => clsN R vs + (if ∃ u ∈ vs, R u v then 0 else 1)
section
variable {α β : Type} {R R' : α → α → Prop}
theorem clsN_congr : ∀ {V : List α}, (∀ x ∈ V, ∀ y ∈ V, R x y ↔ R' x y) → clsN R V = clsN R' V
  | [], _ => rfl
  | v :: vs, h => by
    unfold clsN
    rw [clsN_congr fun x hx y hy => h x (List.mem_cons_of_mem _ hx) y (List.mem_cons_of_mem _ hy)]
    congr 1
    have e : (∃ u ∈ vs, R u v) ↔ ∃ u ∈ vs, R' u v := ⟨fun ⟨u, hu, q⟩ => ⟨u, hu, (h u (List.mem_cons_of_mem _ hu) v List.mem_cons_self).mp q⟩, fun ⟨u, hu, q⟩ => ⟨u, hu, (h u (List.mem_cons_of_mem _ hu) v List.mem_cons_self).mpr q⟩⟩
    by_cases c : ∃ u ∈ vs, R u v
    · rw [if_pos c, if_pos (e.mp c)]
    · rw [if_neg c, if_neg fun z => c (e.mpr z)]
theorem clsN_eq : ∀ {V : List α}, V.Nodup → (∀ x ∈ V, ∀ y ∈ V, R x y → x = y) → clsN R V = V.length
  | [], _, _ => rfl
  | v :: vs, nd, h => by
    rw [List.nodup_cons] at nd
    unfold clsN
    rw [clsN_eq nd.2 fun x hx y hy => h x (List.mem_cons_of_mem _ hx) y (List.mem_cons_of_mem _ hy), if_neg, List.length_cons]
    rintro ⟨u, hu, q⟩
    exact nd.1 (h u (List.mem_cons_of_mem _ hu) v List.mem_cons_self q ▸ hu)
structure Eqv (R : α → α → Prop) : Prop where
  refl : ∀ x, R x x
  symm : ∀ x y, R x y → R y x
  trans : ∀ x y z, R x y → R y z → R x z
open Classical in
theorem clsN_merge (E : Eqv R) {a b : α} (hab : ¬ R a b) (hm : ∀ x y, R' x y ↔ R x y ∨ (R x a ∧ R b y) ∨ (R x b ∧ R a y)) : ∀ V : List α, clsN R V = clsN R' V + (if (∃ x ∈ V, R x a) ∧ ∃ y ∈ V, R y b then 1 else 0)
  | [] => by simp [clsN]
  | v :: vs => by
    have ih := clsN_merge E hab hm vs
    unfold clsN
    have ex : ∀ {p : α → Prop}, (∃ x ∈ v :: vs, p x) ↔ p v ∨ ∃ x ∈ vs, p x := fun {p} => by simp
    simp only [ex]
    by_cases hva : R v a
    · have hvb : ¬ R v b := fun q => hab (E.trans _ _ _ (E.symm _ _ hva) q)
      have e1 : (∃ u ∈ vs, R u v) ↔ ∃ u ∈ vs, R u a := ⟨fun ⟨u, hu, q⟩ => ⟨u, hu, E.trans _ _ _ q hva⟩, fun ⟨u, hu, q⟩ => ⟨u, hu, E.trans _ _ _ q (E.symm _ _ hva)⟩⟩
      have e2 : (∃ u ∈ vs, R' u v) ↔ (∃ u ∈ vs, R u a) ∨ ∃ u ∈ vs, R u b := by
        constructor
        · rintro ⟨u, hu, q⟩
          rcases (hm u v).mp q with q | ⟨_, q⟩ | ⟨q, _⟩
          · exact .inl ⟨u, hu, E.trans _ _ _ q hva⟩
          · exact absurd (E.symm _ _ q) hvb
          · exact .inr ⟨u, hu, q⟩
        · rintro (⟨u, hu, q⟩ | ⟨u, hu, q⟩)
          · exact ⟨u, hu, (hm u v).mpr (.inl (E.trans _ _ _ q (E.symm _ _ hva)))⟩
          · exact ⟨u, hu, (hm u v).mpr (.inr (.inr ⟨q, E.symm _ _ hva⟩))⟩
      simp only [e1, e2, hva, hvb, true_or, false_or, true_and]
      by_cases A : ∃ u ∈ vs, R u a <;> by_cases B : ∃ u ∈ vs, R u b <;> simp only [A, B, if_true, if_false, true_or, or_true, or_false, false_or, and_true, true_and, and_false, false_and, and_self, or_self] at ih ⊢ <;> omega
    · by_cases hvb : R v b
      · have e1 : (∃ u ∈ vs, R u v) ↔ ∃ u ∈ vs, R u b := ⟨fun ⟨u, hu, q⟩ => ⟨u, hu, E.trans _ _ _ q hvb⟩, fun ⟨u, hu, q⟩ => ⟨u, hu, E.trans _ _ _ q (E.symm _ _ hvb)⟩⟩
        have e2 : (∃ u ∈ vs, R' u v) ↔ (∃ u ∈ vs, R u a) ∨ ∃ u ∈ vs, R u b := by
          constructor
          · rintro ⟨u, hu, q⟩
            rcases (hm u v).mp q with q | ⟨q, _⟩ | ⟨_, q⟩
            · exact .inr ⟨u, hu, E.trans _ _ _ q hvb⟩
            · exact .inl ⟨u, hu, q⟩
            · exact absurd (E.symm _ _ q) hva
          · rintro (⟨u, hu, q⟩ | ⟨u, hu, q⟩)
            · exact ⟨u, hu, (hm u v).mpr (.inr (.inl ⟨q, E.symm _ _ hvb⟩))⟩
            · exact ⟨u, hu, (hm u v).mpr (.inl (E.trans _ _ _ q (E.symm _ _ hvb)))⟩
        simp only [e1, e2, hva, hvb, true_or, false_or, and_true]
        by_cases A : ∃ u ∈ vs, R u a <;> by_cases B : ∃ u ∈ vs, R u b <;> simp only [A, B, if_true, if_false, true_or, or_true, or_false, false_or, and_true, true_and, and_false, false_and, and_self, or_self] at ih ⊢ <;> omega
      · have e2 : (∃ u ∈ vs, R' u v) ↔ ∃ u ∈ vs, R u v := by
          constructor
          · rintro ⟨u, hu, q⟩
            rcases (hm u v).mp q with q | ⟨_, q⟩ | ⟨_, q⟩
            · exact ⟨u, hu, q⟩
            · exact absurd (E.symm _ _ q) hvb
            · exact absurd (E.symm _ _ q) hva
          · rintro ⟨u, hu, q⟩
            exact ⟨u, hu, (hm u v).mpr (.inl q)⟩
        simp only [e2, hva, hvb, false_or]
        omega
/-- by images: as many classes as there are images -/
theorem clsN_img [DecidableEq β] (f : α → β) : ∀ (V : List α) (W : List β), W.Nodup → (∀ b, b ∈ W ↔ ∃ v ∈ V, f v = b) → clsN (fun u v => f u = f v) V = W.length
  | [], W, _, h => by
    cases W with
    | nil => rfl
    | cons b r => obtain ⟨v, hv, _⟩ := (h b).mp List.mem_cons_self; cases hv
  | v :: vs, W, nd, h => by
    unfold clsN
    by_cases c : ∃ u ∈ vs, f u = f v
    · rw [if_pos c, clsN_img f vs W nd fun b => ?_]; rfl
      rw [h b]
      constructor
      · rintro ⟨u, hu, e⟩
        rcases List.mem_cons.mp hu with rfl | hu
        · obtain ⟨u, hu, e2⟩ := c
          exact ⟨u, hu, e2.trans e⟩
        · exact ⟨u, hu, e⟩
      · rintro ⟨u, hu, e⟩; exact ⟨u, List.mem_cons_of_mem _ hu, e⟩
    · have hfv : f v ∈ W := (h _).mpr ⟨v, List.mem_cons_self, rfl⟩
      rw [if_neg c, clsN_img f vs (W.erase (f v)) (nd.erase _) fun b => ?_, List.length_erase_of_mem hfv]
      · have := List.length_pos_of_mem hfv
        omega
      · rw [nd.mem_erase_iff, h b]
        constructor
        · rintro ⟨ne, u, hu, e⟩
          rcases List.mem_cons.mp hu with rfl | hu
          · exact absurd e.symm ne
          · exact ⟨u, hu, e⟩
        · rintro ⟨u, hu, e⟩
          exact ⟨fun q => c ⟨u, hu, e.trans q⟩, u, List.mem_cons_of_mem _ hu, e⟩
end
/-! ### what is joined by ridges -/
theorem conn_eqv (s : Sh) (h : Int) : Eqv (Conn s h) := ⟨Conn.refl, fun _ _ c => c.symm, fun _ _ _ a b => a.trans b⟩
theorem conn_edge {s : Sh} {h : Int} {a b : Str} {c : Int} (hr : (a, b, c) ∈ s.2) (hc : c ≤ h) : Conn s h a b := .fwd (.refl a) hr hc
theorem conn_sub {s t : Sh} {h : Int} (he : ∀ a b c, (a, b, c) ∈ s.2 → c ≤ h → Conn t h a b) {x y : Str} (c : Conn s h x y) : Conn t h x y := by
  induction c with
  | refl => exact .refl _
  | fwd _ hr hc ih => exact ih.trans (he _ _ _ hr hc)
  | bwd _ hr hc ih => exact ih.trans (he _ _ _ hr hc).symm
theorem conn_mem {s t : Sh} {h : Int} (he : ∀ r ∈ s.2, r ∈ t.2) {x y : Str} (c : Conn s h x y) : Conn t h x y := conn_sub (fun a b c hr hc => conn_edge (he _ hr) hc) c
theorem conn_cons {V : List Str} {E : List Rg} {a b : Str} {c h : Int} (hc : c ≤ h) {x y : Str} : Conn (V, (a, b, c) :: E) h x y ↔ Conn (V, E) h x y ∨ (Conn (V, E) h x a ∧ Conn (V, E) h b y) ∨ (Conn (V, E) h x b ∧ Conn (V, E) h a y) := by
  constructor
  · intro q
    induction q with
    | refl => exact .inl (.refl _)
    | fwd q hr hc' ih =>
      rename_i a' b' c'
      rcases List.mem_cons.mp hr with e | hr
      · cases e
        rcases ih with q | ⟨q1, q2⟩ | ⟨q1, q2⟩
        · exact .inr (.inl ⟨q, .refl _⟩)
        · exact .inr (.inl ⟨q1, .refl _⟩)
        · exact .inl q1
      · rcases ih with q | ⟨q1, q2⟩ | ⟨q1, q2⟩
        · exact .inl (.fwd q hr hc')
        · exact .inr (.inl ⟨q1, .fwd q2 hr hc'⟩)
        · exact .inr (.inr ⟨q1, .fwd q2 hr hc'⟩)
    | bwd q hr hc' ih =>
      rename_i a' b' c'
      rcases List.mem_cons.mp hr with e | hr
      · cases e
        rcases ih with q | ⟨q1, q2⟩ | ⟨q1, q2⟩
        · exact .inr (.inr ⟨q, .refl _⟩)
        · exact .inl q1
        · exact .inr (.inr ⟨q1, .refl _⟩)
      · rcases ih with q | ⟨q1, q2⟩ | ⟨q1, q2⟩
        · exact .inl (.bwd q hr hc')
        · exact .inr (.inl ⟨q1, .bwd q2 hr hc'⟩)
        · exact .inr (.inr ⟨q1, .bwd q2 hr hc'⟩)
  · have up : ∀ {u v : Str}, Conn (V, E) h u v → Conn (V, (a, b, c) :: E) h u v := fun q => conn_mem (fun r hr => List.mem_cons_of_mem _ hr) q
    have ed : Conn (V, (a, b, c) :: E) h a b := conn_edge List.mem_cons_self hc
    rintro (q | ⟨q1, q2⟩ | ⟨q1, q2⟩)
    · exact up q
    · exact ((up q1).trans ed).trans (up q2)
    · exact ((up q1).trans ed.symm).trans (up q2)
theorem conn_skip {V : List Str} {E : List Rg} {a b : Str} {c h : Int} (hc : Conn (V, E) h a b ∨ h < c) {x y : Str} : Conn (V, (a, b, c) :: E) h x y ↔ Conn (V, E) h x y := by
  refine ⟨fun q => conn_sub (fun a' b' c' hr hc' => ?_) q, fun q => conn_mem (fun r hr => List.mem_cons_of_mem _ hr) q⟩
  rcases List.mem_cons.mp hr with e | hr
  · cases e
    rcases hc with q | q
    · exact q
    · omega
  · exact conn_edge hr hc'
theorem conn_nil {V : List Str} {h : Int} {x y : Str} (c : Conn (V, []) h x y) : x = y := by
  induction c with
  | refl => rfl
  | fwd _ hr _ _ => cases hr
  | bwd _ hr _ _ => cases hr
/-- no more classes are saved than there are ridges -/
theorem cls_bound {V : List Str} (nd : V.Nodup) {h : Int} : ∀ (E : List Rg), (∀ r ∈ E, r.1 ∈ V ∧ r.2.1 ∈ V) → V.length ≤ clsN (Conn (V, E) h) V + E.length
  | [], _ => by rw [clsN_eq nd fun x _ y _ q => conn_nil q]; exact Nat.le_add_right _ _
  | (a, b, c) :: E, hV => by
    have ih := cls_bound nd E (h := h) fun r hr => hV r (List.mem_cons_of_mem _ hr)
    rw [List.length_cons]
    by_cases q : Conn (V, E) h a b ∨ h < c
    · have e := clsN_congr (R := Conn (V, (a, b, c) :: E) h) (R' := Conn (V, E) h) (V := V) fun x _ y _ => conn_skip q
      rw [e]; omega
    · have q1 : ¬ Conn (V, E) h a b := fun z => q (.inl z)
      have q2 : c ≤ h := Int.not_lt.mp fun z => q (.inr z)
      have := clsN_merge (R' := Conn (V, (a, b, c) :: E) h) (conn_eqv (V, E) h) q1 (fun x y => conn_cons q2) V
      have : clsN (Conn (V, E) h) V ≤ clsN (Conn (V, (a, b, c) :: E) h) V + 1 := by
        rw [this]; split <;> omega
      omega
/-- as many lots as classes -/
theorem lots_cls {s : Sh} (g : Good s) (h : Int) : (allLots s h).length = clsN (Conn s h) s.1 := by
  have e := clsN_img (fun p => (⟨lotOf s h p⟩ : TS)) s.1 (allLots s h) (pw_nodup (allLots_up g)) fun l => by
    rw [mem_allLots g]
    exact ⟨fun ⟨p, hp, e⟩ => ⟨p, hp, e.symm⟩, fun ⟨p, hp, e⟩ => ⟨p, hp, e.symm⟩⟩
  rw [← e]
  refine clsN_congr fun x hx y hy => ⟨fun q => ?_, fun q => by show (⟨_⟩ : TS) = ⟨_⟩; rw [lotOf_eq q]⟩
  have q : lotOf s h x = lotOf s h y := congrArg PySem.W.Tup.items q
  have : y ∈ lotOf s h x := by rw [q]; exact mem_lotOf.mpr ⟨hy, .refl y⟩
  exact (mem_lotOf.mp this).2
theorem lots_same {s t : Sh} (g : Good s) (g2 : Good t) (e : t.1 = s.1) {h : Int} : allLots t h = allLots s h ↔ ∀ p ∈ s.1, ∀ q ∈ s.1, Conn t h p q ↔ Conn s h p q := by
  constructor
  · intro q p hp r hr
    have hm : (⟨lotOf t h p⟩ : TS) ∈ allLots s h := by rw [← q]; exact (mem_allLots g2).mpr ⟨p, e ▸ hp, rfl⟩
    obtain ⟨p', hp', e2⟩ := (mem_allLots g).mp hm
    have e2 : lotOf t h p = lotOf s h p' := congrArg PySem.W.Tup.items e2
    have hpp : p ∈ lotOf s h p' := by rw [← e2]; exact mem_lotOf.mpr ⟨e ▸ hp, .refl p⟩
    have e3 : lotOf t h p = lotOf s h p := e2.trans (lotOf_eq (mem_lotOf.mp hpp).2)
    have k : r ∈ lotOf t h p ↔ r ∈ lotOf s h p := by rw [e3]
    rw [mem_lotOf, mem_lotOf, e] at k
    exact ⟨fun c => (k.mp ⟨hr, c⟩).2, fun c => (k.mpr ⟨hr, c⟩).2⟩
  · intro q
    have hl : ∀ p ∈ s.1, lotOf t h p = lotOf s h p := fun p hp => by
      unfold lotOf
      rw [e]
      exact List.filter_congr fun r hr => decide_eq_decide.mpr (q p hp r hr)
    refine allLots_eq g2 (allLots_up g) fun l => ?_
    rw [mem_allLots g, e]
    exact ⟨fun ⟨p, hp, z⟩ => ⟨p, hp, by rw [z, hl p hp]⟩, fun ⟨p, hp, z⟩ => ⟨p, hp, by rw [z, hl p hp]⟩⟩
/-! ### some ridges alone -/
def rgAt (s : Sh) (n : Int) : Rg := (s.2[n.toNat]?).getD (Str.empty, Str.empty, 0)
def subS (s : Sh) (ns : List Int) : Sh := (s.1, ns.map (rgAt s))
def InR (s : Sh) (ns : List Int) : Prop := ∀ n ∈ ns, 0 ≤ n ∧ n < s.2.length
theorem rgAt_mem {s : Sh} {n : Int} (h : 0 ≤ n ∧ n < s.2.length) : rgAt s n ∈ s.2 := by
  have hl : n.toNat < s.2.length := by omega
  unfold rgAt
  rw [List.getElem?_eq_getElem hl]
  exact List.getElem_mem hl
theorem subS_mem {s : Sh} {ns : List Int} (h : InR s ns) : ∀ r ∈ (subS s ns).2, r ∈ s.2 := fun r hr => by
  obtain ⟨n, hn, rfl⟩ := List.mem_map.mp hr
  exact rgAt_mem (h n hn)
theorem good_sub {s : Sh} (g : Good s) {ns : List Int} (h : InR s ns) (hl : ns.length ≤ 10) : Good (subS s ns) :=
  good_of g rfl (by show (ns.map (rgAt s)).length ≤ 10; rw [List.length_map]; exact hl) fun r hr => ⟨r, subS_mem h r hr, rfl, rfl⟩
noncomputable def tellB (s : Sh) (ns : List Int) : Bool := (List.range 10).all fun h : Nat => decide (allLots (subS s ns) (h : Int) = allLots s (h : Int))
theorem tell_iff {s : Sh} (g : Good s) {ns : List Int} (h : InR s ns) (hl : ns.length ≤ 10) : tellB s ns = true ↔ ∀ k : Nat, k < 10 → ∀ p ∈ s.1, ∀ q ∈ s.1, Conn (subS s ns) (k : Int) p q ↔ Conn s (k : Int) p q := by
  unfold tellB
  rw [List.all_eq_true]
  exact ⟨fun q k hk => (lots_same g (good_sub g h hl) rfl).mp (of_decide_eq_true (q k (List.mem_range.mpr hk))), fun q k hk => decide_eq_true ((lots_same g (good_sub g h hl) rfl).mpr (q k (List.mem_range.mp hk)))⟩
theorem good_nd {s : Sh} (g : Good s) : s.1.Nodup := pw_nodup g.up
/-- what tells has no fewer ridges -/
theorem tell_len {s : Sh} (g : Good s) {ns : List Int} (h : InR s ns) (hl : ns.length ≤ 10) (q : tellB s ns = true) : s.1.length ≤ (allLots s 9).length + ns.length := by
  have := cls_bound (good_nd g) (h := 9) (subS s ns).2 fun r hr => g.ends r (subS_mem h r hr)
  have e2 : clsN (Conn (subS s ns) 9) s.1 = clsN (Conn s 9) s.1 := clsN_congr fun x hx y hy => (tell_iff g h hl).mp q 9 (by decide) x hx y hy
  rw [lots_cls g, ← e2]
  have e : (subS s ns).2.length = ns.length := List.length_map _
  rw [e] at this
  exact this
/-! ### the tree -/
open Classical in
/-- ridges taken one by one, each if it joins what is not joined -/
noncomputable def kr (s : Sh) : List Int → List Int → List Int
  | F, [] => F
  | F, n :: Q => if ∃ h, Conn (subS s F) h (rgAt s n).1 (rgAt s n).2.1 then kr s F Q else kr s (F ++ [n]) Q
section
variable {s : Sh}
theorem kr_sub : ∀ (Q F : List Int), (∀ n ∈ F, n ∈ kr s F Q) ∧ (∀ n ∈ kr s F Q, n ∈ F ∨ n ∈ Q) ∧ ((F ++ Q).Nodup → (kr s F Q).Nodup)
  | [], F => ⟨fun _ h => h, fun _ h => .inl h, fun h => by simpa [kr] using h⟩
  | n :: Q, F => by
    unfold kr
    split
    · obtain ⟨h1, h2, h3⟩ := kr_sub Q F
      exact ⟨h1, fun m hm => (h2 m hm).imp id (List.mem_cons_of_mem _), fun nd => h3 (nd.sublist (List.Sublist.append_left (List.sublist_cons_self _ _) _))⟩
    · obtain ⟨h1, h2, h3⟩ := kr_sub Q (F ++ [n])
      refine ⟨fun m hm => h1 m (List.mem_append_left _ hm), fun m hm => ?_, fun nd => h3 (by simpa using nd)⟩
      rcases h2 m hm with h | h
      · rcases List.mem_append.mp h with h | h
        · exact .inl h
        · rw [List.mem_singleton.mp h]; exact .inr List.mem_cons_self
      · exact .inr (List.mem_cons_of_mem _ h)
theorem sub_mono {F T : List Int} (h : ∀ n ∈ F, n ∈ T) {k : Int} {x y : Str} (c : Conn (subS s F) k x y) : Conn (subS s T) k x y := conn_mem (fun r hr => by
  obtain ⟨n, hn, rfl⟩ := List.mem_map.mp hr
  exact List.mem_map.mpr ⟨n, h n hn, rfl⟩) c
/-- only ridges so low are needed -/
theorem conn_low {t : Sh} {k h : Int} (hk : ∀ r ∈ t.2, r.2.2 ≤ k) {x y : Str} (c : Conn t h x y) : Conn t k x y := conn_of (fun a b c hr _ => ⟨c, hr, hk _ hr⟩) c
theorem kr_joins : ∀ (Q F : List Int) (k : Int), (Q.map fun n => (rgAt s n).2.2).Pairwise (· ≤ ·) → (∀ n ∈ F, ∀ m ∈ Q, (rgAt s n).2.2 ≤ (rgAt s m).2.2) → ∀ m ∈ Q, (rgAt s m).2.2 ≤ k → Conn (subS s (kr s F Q)) k (rgAt s m).1 (rgAt s m).2.1
  | [], _, _, _, _, m, hm, _ => by cases hm
  | n :: Q, F, k, hs, hF, m, hm, hk => by
    rw [List.map_cons, List.pairwise_cons] at hs
    have hn : ∀ m ∈ Q, (rgAt s n).2.2 ≤ (rgAt s m).2.2 := fun m hm => hs.1 _ (List.mem_map.mpr ⟨m, hm, rfl⟩)
    unfold kr
    split
    · rename_i q
      obtain ⟨h0, q⟩ := q
      have ih := kr_joins Q F k hs.2 fun a ha b hb => hF a ha b (List.mem_cons_of_mem _ hb)
      rcases List.mem_cons.mp hm with rfl | hm
      · refine sub_mono (kr_sub Q F).1 (conn_low (fun r hr => ?_) q)
        obtain ⟨a, ha, rfl⟩ := List.mem_map.mp hr
        exact Int.le_trans (hF a ha m List.mem_cons_self) hk
      · exact ih m hm hk
    · have ih := kr_joins Q (F ++ [n]) k hs.2 fun a ha b hb => by
        rcases List.mem_append.mp ha with ha | ha
        · exact hF a ha b (List.mem_cons_of_mem _ hb)
        · rw [List.mem_singleton.mp ha]; exact hn b hb
      rcases List.mem_cons.mp hm with rfl | hm
      · exact conn_edge (c := (rgAt s m).2.2) (List.mem_map.mpr ⟨m, (kr_sub Q (F ++ [m])).1 m (List.mem_append_right _ (List.mem_singleton_self m)), rfl⟩) hk
      · exact ih m hm hk
theorem kr_count (g : Good s) {k : Int} : ∀ (Q F : List Int), InR s (F ++ Q) → (∀ n ∈ F ++ Q, (rgAt s n).2.2 ≤ k) → (kr s F Q).length + clsN (Conn (subS s (kr s F Q)) k) s.1 = F.length + clsN (Conn (subS s F) k) s.1
  | [], _, _, _ => rfl
  | n :: Q, F, hR, hk => by
    unfold kr
    split
    · exact kr_count g Q F (fun m hm => hR m (by simp at hm ⊢; rcases hm with h | h <;> simp [h])) fun m hm => hk m (by simp at hm ⊢; rcases hm with h | h <;> simp [h])
    · rename_i q
      rw [kr_count g Q (F ++ [n]) (by simpa using hR) (by simpa using hk), List.length_append, List.length_singleton]
      have hnR := hR n (by simp)
      have hnk := hk n (by simp)
      have he := g.ends _ (rgAt_mem hnR)
      have q1 : ¬ Conn (subS s F) k (rgAt s n).1 (rgAt s n).2.1 := fun z => q ⟨k, z⟩
      have e : ∀ x y, Conn (subS s (F ++ [n])) k x y ↔ Conn (s.1, rgAt s n :: (subS s F).2) k x y := fun x y => by
        refine ⟨fun c => conn_mem (fun r hr => ?_) c, fun c => conn_mem (fun r hr => ?_) c⟩
        · obtain ⟨m, hm, rfl⟩ := List.mem_map.mp hr
          rcases List.mem_append.mp hm with hm | hm
          · exact List.mem_cons_of_mem _ (List.mem_map.mpr ⟨m, hm, rfl⟩)
          · rw [List.mem_singleton.mp hm]; exact List.mem_cons_self
        · rcases List.mem_cons.mp hr with rfl | hr
          · exact List.mem_map.mpr ⟨n, by simp, rfl⟩
          · obtain ⟨m, hm, rfl⟩ := List.mem_map.mp hr
            exact List.mem_map.mpr ⟨m, List.mem_append_left _ hm, rfl⟩
      have := clsN_merge (R' := Conn (subS s (F ++ [n])) k) (conn_eqv (subS s F) k) q1 (fun x y => (e x y).trans (conn_cons (a := (rgAt s n).1) (b := (rgAt s n).2.1) (c := (rgAt s n).2.2) (E := (subS s F).2) (V := s.1) hnk)) s.1
      rw [this, if_pos ⟨⟨_, he.1, .refl _⟩, ⟨_, he.2, .refl _⟩⟩]
      omega
end
end LP
/-! P11: plain: the least tree. -/
namespace LP
open PySem PySem.Spec PyProof.Rows L2 DL
abbrev TI := PySem.W.Tup Int
theorem tlt_tup (l m : List Int) : tlt (⟨l⟩ : TI) ⟨m⟩ = decide (l < m) := by
  show PySem.W.dataLt (.tuple (l.map .int)) (.tuple (m.map .int)) = _
  rw [← PySem.W.dataLt_ints]; rfl
abbrev LT := Int × TI
def keyT (l : List Int) : LT := ((l.length : Int), ⟨l⟩)
theorem tlt_keyT {l m : List Int} : tlt (keyT l) (keyT m) = true ↔ l.length < m.length ∨ (l.length = m.length ∧ l < m) := by
  show PySem.W.dataLt (.tuple [.int (l.length : Int), .tuple (l.map .int)]) (.tuple [.int (m.length : Int), .tuple (m.map .int)]) = true ↔ _
  rw [PySem.W.dataLt_pair rfl (show PySem.W.alike (.tuple (l.map .int)) (.tuple (m.map .int)) = true from PySem.W.DatumOrd.alike (⟨l⟩ : TI) ⟨m⟩), eqv_int, PySem.W.dataLt_int, show PyData.eqv (.tuple (l.map .int)) (.tuple (m.map .int)) = decide ((⟨l⟩ : TI) = ⟨m⟩) from PySem.W.Datum.eqv (⟨l⟩ : TI) ⟨m⟩, show PySem.W.dataLt (.tuple (l.map .int)) (.tuple (m.map .int)) = decide (l < m) from tlt_tup l m]
  by_cases e : (l.length : Int) = m.length
  · rw [decide_eq_true e, if_pos rfl]
    by_cases q : l = m
    · subst q
      rw [decide_eq_true rfl, if_pos rfl]
      constructor
      · intro z; cases z
      · rintro (z | ⟨_, z⟩)
        · exact absurd z (Nat.lt_irrefl _)
        · exact absurd z (List.lt_irrefl l)
    · rw [decide_eq_false (fun z => q (congrArg PySem.W.Tup.items z)), if_neg Bool.false_ne_true, decide_eq_true_eq]
      constructor
      · intro z; exact .inr ⟨by omega, z⟩
      · rintro (z | ⟨_, z⟩)
        · omega
        · exact z
  · rw [decide_eq_false e, if_neg Bool.false_ne_true, decide_eq_true_eq]
    omega
theorem tlt_i (a b : Int) : tlt a b = decide (a < b) := PySem.W.dataLt_int a b
theorem tlt_ii (a b c d : Int) : tlt ((a, b) : Int × Int) (c, d) = decide (a < c ∨ (a = c ∧ b < d)) := by
  show PySem.W.dataLt (.tuple [.int a, .int b]) (.tuple [.int c, .int d]) = _
  rw [PySem.W.dataLt_pair rfl rfl, eqv_int, eqv_int, PySem.W.dataLt_int, PySem.W.dataLt_int]
  by_cases e : a = c
  · subst e
    rw [decide_eq_true rfl, if_pos rfl]
    by_cases q : b = d
    · subst q; simp
    · simp [q]
  · rw [decide_eq_false e, if_neg Bool.false_ne_true]
    simp [e]
def rangeI (m : Nat) : List Int := (List.range m).map fun i : Nat => (i : Int)
theorem mem_rangeI {m : Nat} {n : Int} : n ∈ rangeI m ↔ 0 ≤ n ∧ n < m := by
  unfold rangeI
  rw [List.mem_map]
  constructor
  · rintro ⟨i, hi, rfl⟩; have := List.mem_range.mp hi; omega
  · rintro ⟨h1, h2⟩; exact ⟨n.toNat, List.mem_range.mpr (by omega), by omega⟩
theorem rangeI_up (m : Nat) : (rangeI m).Pairwise (· < ·) := by
  unfold rangeI
  rw [List.pairwise_map]
  exact List.pairwise_lt_range.imp fun h => Int.ofNat_lt.mpr h
/-- the ridges by heights, then by numbers -/
def hiNo (s : Sh) : List (Int × Int) := s.2.zipIdx.map fun z => (z.1.2.2, ((z.2 : Nat) : Int))
def ordQ (s : Sh) : List Int := (tsort (hiNo s)).map (·.2)
theorem hiNo_at {s : Sh} {p : Int × Int} (h : p ∈ hiNo s) : p.1 = (rgAt s p.2).2.2 ∧ 0 ≤ p.2 ∧ p.2 < s.2.length := by
  obtain ⟨z, hz, rfl⟩ := List.mem_map.mp h
  have hz := List.mem_zipIdx hz
  simp only [Nat.zero_le, Nat.sub_zero, true_and] at hz
  obtain ⟨h1, h2⟩ := hz
  refine ⟨?_, by omega, by omega⟩
  unfold rgAt
  rw [Int.toNat_natCast, List.getElem?_eq_getElem (by omega)]
  simp only [Option.getD_some]
  rw [h2]
theorem hiNo_no (s : Sh) : (hiNo s).map (·.2) = rangeI s.2.length := by
  unfold hiNo rangeI
  apply List.ext_getElem?
  intro i
  rw [List.getElem?_map, List.getElem?_map, List.getElem?_map, List.getElem?_zipIdx]
  by_cases h : i < s.2.length
  · rw [List.getElem?_eq_getElem h, List.getElem?_range h]; simp
  · rw [List.getElem?_eq_none (by omega), List.getElem?_eq_none (by simpa using h)]; rfl
theorem ordQ_perm (s : Sh) : (ordQ s).Perm (rangeI s.2.length) := by
  rw [← hiNo_no]
  exact (tsort_perm _).map _
theorem ordQ_mem {s : Sh} {n : Int} : n ∈ ordQ s ↔ 0 ≤ n ∧ n < s.2.length := by rw [(ordQ_perm s).mem_iff, mem_rangeI]
theorem ordQ_up (s : Sh) : ((ordQ s).map fun n => (rgAt s n).2.2).Pairwise (· ≤ ·) := by
  unfold ordQ
  rw [List.map_map, List.pairwise_map]
  refine ((tsort_pw (hiNo s)).imp_of_mem fun {p q} hp hq h => ?_)
  have h1 := (hiNo_at (tsort_mem.mp hp)).1
  have h2 := (hiNo_at (tsort_mem.mp hq)).1
  obtain ⟨p1, p2⟩ := p
  obtain ⟨q1, q2⟩ := q
  rw [tlt_ii, decide_eq_false_iff_not] at h
  show (rgAt s p2).2.2 ≤ (rgAt s q2).2.2
  dsimp only at h1 h2
  rw [← h1, ← h2]
  omega
noncomputable def treeL (s : Sh) : List Int := kr s [] (ordQ s)
theorem tree_in (s : Sh) : InR s (treeL s) := fun n hn => by
  rcases (kr_sub (s := s) (ordQ s) []).2.1 n hn with h | h
  · cases h
  · exact ordQ_mem.mp h
theorem tree_nd (s : Sh) : (treeL s).Nodup := (kr_sub (s := s) (ordQ s) []).2.2 (by
  rw [List.nil_append]
  exact (ordQ_perm s).nodup_iff.mpr ((rangeI_up _).imp fun h => Int.ne_of_lt h))
theorem tree_conn (s : Sh) (k : Int) (x y : Str) : Conn (subS s (treeL s)) k x y ↔ Conn s k x y := by
  refine ⟨fun c => conn_mem (fun r hr => subS_mem (tree_in s) r hr) c, fun c => conn_sub (fun a b h hr hh => ?_) c⟩
  obtain ⟨i, hi, e⟩ := List.mem_iff_getElem.mp hr
  have en : rgAt s (i : Int) = (a, b, h) := by
    unfold rgAt
    rw [Int.toNat_natCast, List.getElem?_eq_getElem hi, e]; rfl
  have := kr_joins (s := s) (ordQ s) [] k (ordQ_up s) (fun n hn => nomatch hn) (i : Int) (ordQ_mem.mpr ⟨by omega, by omega⟩) (by rw [en]; exact hh)
  rw [en] at this
  exact this
theorem tree_len {s : Sh} (g : Good s) (ht : ∀ r ∈ s.2, r.2.2 ≤ 9) : (treeL s).length + (allLots s 9).length = s.1.length := by
  have h := kr_count g (k := 9) (ordQ s) [] (fun n hn => ordQ_mem.mp (by simpa using hn)) fun n hn => ht _ (rgAt_mem (ordQ_mem.mp (by simpa using hn)))
  rw [List.length_nil, Nat.zero_add, clsN_eq (R := Conn (subS s []) 9) (good_nd g) fun x _ y _ q => conn_nil (V := s.1) q] at h
  rw [lots_cls g, ← h]
  congr 1
  exact clsN_congr fun x _ y _ => (tree_conn s 9 x y).symm
/-- the tree, rising -/
noncomputable def treeS (s : Sh) : List Int := tsort (treeL s)
theorem treeS_len (s : Sh) : (treeS s).length = (treeL s).length := (tsort_perm _).length_eq
theorem treeS_mem {s : Sh} {n : Int} : n ∈ treeS s ↔ n ∈ treeL s := tsort_mem
theorem treeS_up (s : Sh) : (treeS s).Pairwise (· < ·) := (tsort_strict (tree_nd s)).imp fun {a b} h => by rw [tlt_i] at h; exact of_decide_eq_true h
theorem up_sub {m : Nat} {l : List Int} (hu : l.Pairwise (· < ·)) (hr : ∀ n ∈ l, 0 ≤ n ∧ n < m) : l.Sublist (rangeI m) := by
  have e : (rangeI m).filter (fun n => decide (n ∈ l)) = l := by
    refine pw_ext (α := Int) ?_ ?_ fun n => ?_
    · exact ((rangeI_up m).filter _).imp fun {a b} h => by rw [tlt_i]; exact decide_eq_true h
    · exact hu.imp fun {a b} h => by rw [tlt_i]; exact decide_eq_true h
    · rw [List.mem_filter, decide_eq_true_eq, mem_rangeI]
      exact ⟨fun h => h.2, fun h => ⟨hr n h, h⟩⟩
  rw [← e]
  exact List.filter_sublist
theorem sub_in {s : Sh} {l : List Int} (h : l.Sublist (rangeI s.2.length)) : InR s l ∧ l.length ≤ s.2.length := ⟨fun n hn => mem_rangeI.mp (h.subset hn), by have := h.length_le; unfold rangeI at this; rw [List.length_map, List.length_range] at this; exact this⟩
theorem treeS_tells {s : Sh} (g : Good s) : tellB s (treeS s) = true := by
  have hR : InR s (treeS s) := fun n hn => tree_in s n (treeS_mem.mp hn)
  have hs := sub_in (up_sub (treeS_up s) hR)
  rw [tell_iff g hR (Nat.le_trans hs.2 g.ten)]
  intro k _ p _ q _
  rw [← tree_conn s (k : Int) p q]
  exact ⟨fun c => sub_mono (fun n hn => treeS_mem.mp hn) c, fun c => sub_mono (fun n hn => treeS_mem.mpr hn) c⟩
noncomputable def leastL (s : Sh) : List Int := ((chosenL (treeL s).length (rangeI s.2.length)).find? (tellB s)).getD []
structure LeastOk (s : Sh) (l : List Int) : Prop where
  sub : l.Sublist (rangeI s.2.length)
  len : l.length = (treeL s).length
  tells : tellB s l = true
  least : ∀ m : List Int, m.Sublist (rangeI s.2.length) → tellB s m = true → tlt (keyT m) (keyT l) = false
theorem least_ok {s : Sh} (g : Good s) (ht : ∀ r ∈ s.2, r.2.2 ≤ 9) : (chosenL (treeL s).length (rangeI s.2.length)).find? (tellB s) = some (leastL s) ∧ LeastOk s (leastL s) := by
  have hR : InR s (treeS s) := fun n hn => tree_in s n (treeS_mem.mp hn)
  have hm : treeS s ∈ chosenL (treeL s).length (rangeI s.2.length) := mem_chosenL.mpr ⟨up_sub (treeS_up s) hR, treeS_len s⟩
  unfold leastL
  cases q : (chosenL (treeL s).length (rangeI s.2.length)).find? (tellB s) with
  | none => exact absurd (treeS_tells g) (List.find?_eq_none.mp q _ hm)
  | some l =>
    refine ⟨rfl, ?_⟩
    obtain ⟨h1, as, bs, e, h2⟩ := List.find?_eq_some_iff_append.mp q
    have hl := mem_chosenL.mp (by rw [e]; exact List.mem_append_right _ List.mem_cons_self : l ∈ chosenL (treeL s).length (rangeI s.2.length))
    refine ⟨hl.1, hl.2, h1, fun m hms hmt => ?_⟩
    show tlt (keyT m) (keyT l) = false
    rw [Bool.eq_false_iff]
    intro z
    rcases tlt_keyT.mp z with z | ⟨z1, z2⟩
    · have b1 := tell_len g (sub_in hms).1 (Nat.le_trans (sub_in hms).2 g.ten) hmt
      have b2 := tree_len g ht
      have := hl.2
      omega
    · have hmc : m ∈ chosenL (treeL s).length (rangeI s.2.length) := mem_chosenL.mpr ⟨hms, z1.trans hl.2⟩
      have up := chosen_up (k := (treeL s).length) (rangeI_up s.2.length)
      rw [e] at hmc up
      rcases List.mem_append.mp hmc with hmc | hmc
      · have := h2 m hmc
        rw [hmt] at this; cases this
      · rcases List.mem_cons.mp hmc with rfl | hmc
        · exact List.lt_irrefl _ z2
        · have := (List.pairwise_cons.mp (List.pairwise_append.mp up).2.1).1 m hmc
          exact List.lt_irrefl _ (List.lt_trans z2 this)
end LP
/-! DL26: a target set to what rolls. -/
namespace DL
open PySem PySem.Spec PyProof.Rows L2
section
variable {X : Cx} {F : Fr0} {E : Fam} {H0 : Bs} {ρ : Env} {e tg a : Expr} {S : D → Prop} {pos p1 : Pos} {rest : List Stmt} {N : DEnd} {d : D} {n : Nat}
theorem dsx_asg (he : DX X F E e S) (hg : ∀ d, S d → ∃ (E1 : Fam) (js : List Nat), (∀ x k, DG X F.H0 (E x k) tg d (E1 x k) js) ∧ DSX X F E1 rest N) (hs : swapsWithSole [tg] e pos.line X.env = pure false := by rfl) (hw : swappedStores [tg] e X.env = pure none := by rfl)
    (h1 : (assignEach [tg] X.env).map (·.2) = [assign tg X.env] := by rfl) : DSX X F E (.Assign [tg] e pos :: rest) N := fun x0 k0 =>
  (pss_cons (ps_asg he PG.any hs hw h1) PSs.any).imp fun D σ H ⟨G, ex, sl, a⟩ => ⟨x0, k0, G, ex, sl, fun d x1 k1 v G1 H1 s1 e1 g1 sl1 r1 => by
    obtain ⟨E1, js, hd, hr⟩ := hg d s1
    exact ⟨_, hd x1 k1, G1, e1.gh, sl1, r1, fun σ' sl' _ => ⟨_, hr x1 k1, tS_up (D := D) e1 g1 sl' a⟩⟩⟩
theorem notNe (ha : DE X H0 ρ a d) (hm : behindInMarks .IsNot (.Constant .none n p1) = false := by first | exact nomark _ | rfl) : DE X H0 ρ (.Compare a [.IsNot] [.Constant .none n p1] pos) (.bool (!isNone d)) := de_cmp op_notN od_notN ha de_non hm
theorem isNe (ha : DE X H0 ρ a d) (hm : behindInMarks .Is (.Constant .none n p1) = false := by first | exact nomark _ | rfl) : DE X H0 ρ (.Compare a [.Is] [.Constant .none n p1] pos) (.bool (isNone d)) := de_cmp op_isN od_isN ha de_non hm
end
end DL
/-! DL27: sorted of a tuple. -/
namespace DL
open PySem PySem.Spec PyProof.Rows L2
mutual
theorem reads_has {h : Heap} : ∀ (d : PyData) (v : Value) (as : List Addr), PySem.W.alike d d = true → Reads h v d as → ∀ a ∈ as, ∃ o, h.get? a = some o
  | .none, _, _, _, r, a, ha => by cases r; cases ha
  | .bool _, _, _, _, r, a, ha => by cases r; cases ha
  | .int _, _, _, _, r, a, ha => by cases r; cases ha
  | .str _, _, _, _, r, a, ha => by cases r; cases ha
  | .list xs, _, _, hal, r, a, ha => by
    cases r with
    | list h1 h2 h3 h4 =>
      rcases List.mem_cons.mp ha with rfl | ha
      · exact ⟨_, h1⟩
      · exact reads_hasAll xs _ _ (by simpa [PySem.W.alike] using hal) h4 a ha
  | .tuple xs, _, _, hal, r, a, ha => by
    cases r with
    | tuple h1 h2 h3 h4 => exact reads_hasAll xs _ _ (by simpa [PySem.W.alike] using hal) h4 a ha
  | .dict _, _, _, hal, _, _, _ => absurd hal (by simp [PySem.W.alike])
theorem reads_hasAll {h : Heap} : ∀ (ds : List PyData) (vs : List Value) (as : List Addr), PySem.W.alikeAll ds ds = true → ReadsAll h vs ds as → ∀ a ∈ as, ∃ o, h.get? a = some o
  | [], _, _, _, r, a, ha => by cases r; cases ha
  | d :: ds, _, _, hal, r, a, ha => by
    cases r with
    | cons h1 h2 =>
      rcases List.mem_append.mp ha with ha | ha
      · exact reads_has d _ _ (PySem.W.alike_all_cons hal).1 h1 a ha
      · exact reads_hasAll ds _ _ (PySem.W.alike_all_cons hal).2 h2 a ha
end
def rSortT (K : PySem.W.Frag) : List V → Hp → VK → Prop := fun vs H Q => ∃ a ws ds, vs = [V.ref a] ∧ SqT K H a ws ∧ DpAll K H ws ds ∧ PySem.W.AllAlike ds ∧ PySem.W.Sortable ds ∧ (∀ d ∈ ds, d.depth ≤ 50) ∧
  ∀ (l : Addr) (zs : List (V × D)), H l = none → (∀ p ∈ zs, p ∈ ws.zip ds) → zs.map (·.2) = dsort ds → Q (.ref l) (upd H l (.lst (zs.map (·.1))))
theorem cr_sortT {X : Cx} (hu : X.A.units + 64 < cLine) : CallR X (.builtin "sorted") (rSortT X.K) := by
  intro pins s σ H vs us Q I r h
  obtain ⟨a, ws, ds, rfl, hs, hd, hal, hk, hdep, q⟩ := h
  obtain ⟨its, rv, ⟨o, ho, hc, n, hdat⟩, hz⟩ := I.tuple hs
  rw [Vals.ref1 r]
  have hlen : ws.length = ds.length := hd.length
  have hlz : (ws.zip ds).length = its.length := by rw [List.length_zip, hlen, Nat.min_self, ← hlen]; exact rv.length
  have zs : (ws.zip ds).map (·.2) = ds := zip_snd hlen
  have e1 : PySem.W.EachIs (fun (u : Value) (p : V × D) => RelV p.1 u) its (ws.zip ds) := vals_each rv hlen
  have hzi : its.length ≤ sizeLine := by rw [← rv.length]; exact hz
  refine Calls.call_function_entry kind_sorted plain_sorted entry_sorted (args_sorted1 _) ?_
  unfold Builtin.«sorted»
  refine wpAny_bind (m := checkCount "sorted" 1 1 _) (wpAny_pure ?_)
  refine wpAny_bind (wpAny_collect_seq (T := "tuple") a (.inr rfl) ho hc hdat (fun h' k1 => ?_) (by rw [List.size_toArray]; exact hzi))
  rw [List.toList_toArray]
  refine wpAny_bind (wpAny_newList ?_ hzi)
  have hoL : (h'.push (seqObj "list" its.toArray 0)).get? h'.objs.size = some (seqObj "list" its.toArray 0) := Heap.get?_push_size _ rfl
  have er : PySem.W.EachIs (fun (v : Value) (b : V × D) => ∃ as, Reads (h'.push (seqObj "list" its.toArray 0)) v b.2 as ∧ h'.objs.size ∉ as) its (ws.zip ds) := reads_each e1 fun p hp u ru => by
    obtain ⟨as, ra⟩ := Dp.reads I _ _ _ (dpAll_zip hd p hp) ru
    refine ⟨as, PyProof.Rows.Reads.keeps (fun b o e => Heap.get?_push_of_some _ (k1 b o e)) ra, fun z => ?_⟩
    have hm : p.2 ∈ ds := by rw [← zs]; exact List.mem_map.mpr ⟨p, hp, rfl⟩
    obtain ⟨o2, e2⟩ := reads_has _ _ _ (hal _ hm _ hm) ra _ z
    have := Heap.lt_size (k1 _ _ e2)
    exact Nat.lt_irrefl _ this
  refine wpAny_bind (wpAny_holding (PySem.W.list_sort_data (s := { s with heap := h'.push (seqObj "list" its.toArray 0) }) (enc := fun p : V × D => p.2) (R := fun (u : Value) (p : V × D) => RelV p.1 u) hoL e1 er (by rw [zs]; exact hal) (by rw [zs]; exact hk) (by rw [hlz]; exact hzi) (fun b hb => ?_) fun out ho1 ho2 => ?_))
  · have : b.2 ∈ ds := by rw [← zs]; exact List.mem_map.mpr ⟨b, hb, rfl⟩
    have := hdep _ this
    show X.A.units + 1 + 1 + b.2.depth < cLine
    omega
  · obtain ⟨ep, he'⟩ := sortedHeap_at (vs := its) (out := out.toArray) hoL
    have pm := List.mergeSort_perm (ws.zip ds) (PySem.W.dataLe false fun p : V × D => p.2)
    have hv := each_vals ho2
    have hn : H h'.objs.size = none := (I.hok.kept k1).fresh (Nat.le_refl _)
    have hp : s.heap.get? h'.objs.size = none := by
      cases e : s.heap.get? h'.objs.size with
      | none => rfl
      | some o => exact absurd (Heap.lt_size (k1 _ _ e)) (Nat.lt_irrefl _)
    have kp : ∀ b u, s.heap.get? b = some u → (sortedHeap (h'.push (seqObj "list" its.toArray 0)) h'.objs.size its out.toArray).get? b = some u := fun b u e => by
      have q1 := k1 b u e
      have hlt := Heap.lt_size q1
      rw [sortedHeap_old (Nat.ne_of_lt hlt) (by rw [size_push']; exact Nat.lt_succ_of_lt hlt)]
      exact Heap.get?_push_of_some _ q1
    refine wpAny_pure ⟨_, rfl, ?_⟩
    have hlz2 : (((ws.zip ds).mergeSort (PySem.W.dataLe false fun p : V × D => p.2)).map (·.1)).length ≤ sizeLine := by
      rw [List.length_map, pm.length_eq, hlz]; exact hzi
    refine ⟨.ref _, upd H h'.objs.size (.lst (((ws.zip ds).mergeSort (PySem.W.dataLe false fun p : V × D => p.2)).map (·.1))), I.laidN (t' := s.toks) kp hp hn ⟨hlz2, out, ep, hv, by simpa using he'⟩, rfl, q _ ((ws.zip ds).mergeSort (PySem.W.dataLe false fun p : V × D => p.2)) hn (fun p hp => pm.mem_iff.mp hp) ?_⟩
    have hm := PySem.W.sort_maps (fun p : V × D => p.2) (r := PySem.W.dataLe false fun p : V × D => p.2) (s := PySem.W.dataLe false id) (l := ws.zip ds) (fun _ _ _ _ => rfl)
    rw [zs] at hm
    exact hm
section
variable {X : Cx} {H0 : Bs} {ρ : Env} {e : Expr} {xs : List D} {p1 pos : Pos} {k : Nat}
theorem sortedT (bt : Bt X.mg) (hr : Room k X.A) (hal : PySem.W.AllAlike xs) (hk : PySem.W.Sortable xs) (hd : ∀ d ∈ xs, d.depth ≤ 50) (ha : DE X H0 ρ e (.tuple xs)) (hg : Gl X "sorted" := by rfl) (he : starEach (e :: []) X.env = (false, eval e X.env) :: starEach [] X.env := by rfl) (hpl : (backTo pos (starEach [] X.env)).any (·.1) = false := by rfl) :
    DL X H0 ρ (.Call (.Name "sorted" p1) [e] [] pos) (dsort xs) :=
  (pe_callB (cr_sortT hr.units) hg (bt.at _) (by decide +kernel) (pa_one ha he) (by decide) (by decide) he hpl).imp fun σ H Q ⟨G, x, sl, q⟩ => ⟨G, x, sl, fun v G1 H1 y r => by
    obtain ⟨a, vs, rfl, h1, h2⟩ := dp_tup r
    exact ⟨a, vs, xs, rfl, y.gh.seqT h1, h2.up y.gh, hal, hk, hd, fun l zs hl hz hm => q l _ G1 _ (y.trans (Ext.heap y.gh (Ex.new hl))) (y.h.back hl) (y.gh.back hl) upd_same (by rw [← hm]; exact dpAll_of fun p hp => dpAll_zip h2 p (hz p hp))⟩⟩
end
end DL
/-! DL28: things that change: instances; their cells; what stays when one is changed. -/
namespace DL
open PySem PySem.Spec PyProof.Rows L2 LamX
/-! ### the heap without a thing -/
open Classical in
noncomputable def delT (H : Hp) (t : Thg) : Hp := fun a => if t.Has a then none else H a
theorem delT_in {H : Hp} {t : Thg} {a : Addr} (h : t.Has a) : delT H t a = none := by unfold delT; exact if_pos h
theorem delT_out {H : Hp} {t : Thg} {a : Addr} (h : ¬ t.Has a) : delT H t a = H a := by unfold delT; exact if_neg h
theorem delT_ex {H : Hp} {t : Thg} : Ex (delT H t) H := fun a o h => by
  by_cases e : t.Has a
  · rw [delT_in e] at h; cases h
  · rw [delT_out e] at h; exact h
section
variable {K : PySem.W.Frag} {F : Fr0} {G H G2 H2 : Hp} {σ : L2.St} {ρ : Env} {H0 : Bs} {t t' : Thg} {i : Nat}
theorem Thg.Ok.soft_ {out : Hp} (h : t.Ok K out G H) {a : Addr} {o : HO} (ha : t.Has a) (e : H a = some o) : SoftO o := by
  obtain ⟨c, hc, rfl⟩ := ha
  obtain ⟨_, _, u, a3, a4⟩ := h.ok c hc
  rw [e] at a3; cases a3
  exact c.soft _ _ _ a4
theorem Thg.Ok.g0 {out : Hp} (h : t.Ok K out G H) {a : Addr} (ha : t.Has a) : G a = none := by
  obtain ⟨c, hc, rfl⟩ := ha
  obtain ⟨a1, a2, _⟩ := h.ok c hc
  exact a2
theorem Thg.Ok.o0 {out : Hp} (h : t.Ok K out G H) (hw : t.w = true) {a : Addr} (ha : t.Has a) : out a = none := by
  obtain ⟨c, hc, rfl⟩ := ha
  obtain ⟨a1, a2, _⟩ := h.ok c hc
  exact a1 hw
theorem Slots.chg (s : Slots K H0 G H σ ρ) (hi : ρ[i]? = some (.thg t)) (y : Ext G (delT H t) G2 H2) (hok : t'.Ok K H0.out G2 H2) (hr : t'.root = t.root) (hsub : ∀ a, t'.Has a → t.Has a ∨ H a = none) : Slots K H0 G2 H2 σ (ρ.set i (.thg t')) := by
  obtain ⟨hroot, tok⟩ := s.thg.at_ i t hi
  have ne : ∀ {j : Nat} {x : Sl}, (ρ.set i (.thg t'))[j]? = some x → (∀ u, x ≠ .thg u) → ρ[j]? = some x := fun {j x} h n => by
    by_cases q : i = j
    · subst q; obtain ⟨e, _⟩ := get_set_eq h; exact absurd e (n t')
    · exact get_set_ne q h
  have own' : ∀ {j : Nat} {es p0 p}, ρ[j]? = some (.own es p0) → σ[j]? = some (some (.ref p)) → ¬ t.Has p := fun {j es p0 p} h1 h2 => s.thg.lst j i es p0 t p h1 hi h2
  have two' : ∀ {j : Nat} {u}, i ≠ j → ρ[j]? = some (.thg u) → ∀ a, u.Has a → ¬ t.Has a := fun {j u} n h a ha hb => s.thg.two i j t u n hi h a hb ha
  refine ⟨by rw [List.length_set, s.len], fun j d' hd => ?_, fun j es p0 hd => ?_, fun j k es fs p0 p1 q hjk h1 h2 h3 h4 => ?_, fun j es p' q h1 h2 => ?_, H0.keep _ _ s.inv fun a o ha hnl => ?_, fun j v9 h9 => s.raw j v9 (ne h9 fun _ z => by cases z), ⟨fun j u h => ?_, fun j k es p0 u p h1 h2 h3 => ?_, fun j k u v n h1 h2 a ha hb => ?_⟩⟩
  · obtain ⟨v, ev, r⟩ := s.dat j d' (ne hd fun _ z => by cases z)
    exact ⟨v, ev, r.up y.g⟩
  · have hd2 := ne hd fun _ z => by cases z
    obtain ⟨p, vs, e, h0, hg, hh, r⟩ := s.own j es p0 hd2
    have hh' : delT H t p = some (.lst vs) := by rw [delT_out (own' hd2 e)]; exact hh
    exact ⟨p, vs, e, h0, y.keepN hg hh', y.h _ _ hh', r.up y.g⟩
  · exact s.apart j k es fs p0 p1 q hjk (ne h1 fun _ z => by cases z) (ne h2 fun _ z => by cases z) h3 h4
  · exact s.pin j es p' q (ne h1 fun _ z => by cases z) h2
  · exact y.h a o (by rw [delT_out fun z => hnl (tok.soft_ z ha)]; exact ha)
  · by_cases q : i = j
    · subst q
      obtain ⟨e, _⟩ := get_set_eq h
      cases e
      exact ⟨by rw [hr]; exact hroot, hok⟩
    · have h := get_set_ne q h
      obtain ⟨e1, e2⟩ := s.thg.at_ j u h
      refine ⟨e1, ⟨fun c hc => ?_⟩⟩
      obtain ⟨a1, a2, o, a3, a4⟩ := e2.ok c hc
      have a3' : delT H t c.at_ = some o := by rw [delT_out (two' q h _ ⟨c, hc, rfl⟩)]; exact a3
      exact ⟨a1, y.keepN a2 a3', o, y.h _ _ a3', c.mono _ _ _ _ y.g a4⟩
  · have h1 := ne h1 fun _ z => by cases z
    by_cases q : i = k
    · subst q
      obtain ⟨e, _⟩ := get_set_eq h2
      cases e
      intro hp
      rcases hsub p hp with hp | hp
      · exact own' h1 h3 hp
      · obtain ⟨p', vs, e, _, _, hh, _⟩ := s.own j es p0 h1
        rw [e] at h3; cases h3
        rw [hp] at hh; cases hh
    · exact s.thg.lst j k es p0 u p h1 (get_set_ne q h2) h3
  · by_cases q : i = j
    · subst q
      obtain ⟨e, _⟩ := get_set_eq h1
      cases e
      have h2 := get_set_ne n h2
      rcases hsub a ha with ha | ha
      · exact two' n h2 a hb ha
      · exact (s.thg.at_ k v h2).2.ne ha hb
    · have h1 := get_set_ne q h1
      by_cases q2 : i = k
      · subst q2
        obtain ⟨e, _⟩ := get_set_eq h2
        cases e
        rcases hsub a hb with hb | hb
        · exact two' q h1 a ha hb
        · exact (s.thg.at_ j u h1).2.ne hb ha
      · exact s.thg.two j k u v n h1 (get_set_ne q2 h2) a ha hb
theorem Ext.chg {G0 out : Hp} (e : Ext G0 out G H) (tok : t.Ok K out G H) (hw : t.w = true) (y : Ext G (delT H t) G2 H2) : Ext G0 out G2 H2 := by
  refine ⟨e.g.trans y.g, fun a o h => ?_, y.gh, fun a o h n => ?_, fun a ps h => e.nt a ps (y.nt a ps h)⟩
  · have ne : ¬ t.Has a := fun z => by rw [tok.o0 hw z] at h; cases h
    exact y.h a o (by rw [delT_out ne]; exact e.h a o h)
  · cases q : G a with
    | some u => exact e.nw a u q n
    | none =>
      have := y.nw a o h q
      by_cases z : t.Has a
      · exact tok.o0 hw z
      · rw [delT_out z] at this; exact e.h.back this
/-- a cell is written -/
theorem Ext.cell {out : Hp} {a : Addr} {o : HO} (e : Ex G H) (tok : t.Ok K out G H) (ha : t.Has a) : Ext G (delT H t) G (upd H a o) := by
  refine ⟨Ex.refl G, fun b u h => ?_, e.mut (tok.g0 ha), fun b u h n => (by rw [n] at h; cases h), fun _ _ h => h⟩
  have nb : ¬ t.Has b := fun z => by rw [delT_in z] at h; cases h
  rw [delT_out nb] at h
  have ne : b ≠ a := fun z => nb (z ▸ ha)
  rw [upd_ne ne]; exact h
/-- a slot gets a new thing -/
theorem Slots.setT (s : Slots K H0 G H σ ρ) (hok : t.Ok K H0.out G H) (hn : ∀ a, t.Has a → Free ρ σ a) : Slots K H0 G H (σ.set i (some (.ref t.root))) (ρ.set i (.thg t)) := by
  have s1 := s.setU i (some (.ref t.root))
  have ne : ∀ {j : Nat} {x : Sl}, (ρ.set i (.thg t))[j]? = some x → (∀ u, x ≠ .thg u) → (ρ.set i .un)[j]? = some x ∧ i ≠ j := fun {j x} h n => by
    by_cases q : i = j
    · subst q; obtain ⟨e, _⟩ := get_set_eq h; exact absurd e (n t)
    · exact ⟨by rw [List.getElem?_set_ne q]; exact get_set_ne q h, q⟩
  refine ⟨by rw [List.length_set, List.length_set, s.len], fun j d' hd => s1.dat j d' (ne hd fun _ z => by cases z).1, fun j es p0 hd => s1.own j es p0 (ne hd fun _ z => by cases z).1, fun j k es fs p0 p1 q hjk h1 h2 h3 h4 => s1.apart j k es fs p0 p1 q hjk (ne h1 fun _ z => by cases z).1 (ne h2 fun _ z => by cases z).1 h3 h4, fun j es p' q h1 h2 => s1.pin j es p' q (ne h1 fun _ z => by cases z).1 h2, s.inv, fun j v9 h9 => s1.raw j v9 (ne h9 fun _ z => by cases z).1, ⟨fun j u h => ?_, fun j k es p0 u p h1 h2 h3 => ?_, fun j k u v n h1 h2 a ha hb => ?_⟩⟩
  · by_cases q : i = j
    · subst q
      obtain ⟨e, hl⟩ := get_set_eq h
      cases e
      exact ⟨List.getElem?_set_self (by rw [s.len]; exact hl), hok⟩
    · rw [List.getElem?_set_ne q]
      exact s.thg.at_ j u (get_set_ne q h)
  · obtain ⟨h1', q1⟩ := ne h1 fun _ z => by cases z
    have h1 := get_set_ne q1 h1
    rw [List.getElem?_set_ne q1] at h3
    by_cases q : i = k
    · subst q
      obtain ⟨e, _⟩ := get_set_eq h2
      cases e
      exact fun hp => (hn p hp).own j es p0 h1 h3
    · exact s.thg.lst j k es p0 u p h1 (get_set_ne q h2) h3
  · by_cases q : i = j
    · subst q
      obtain ⟨e, _⟩ := get_set_eq h1
      cases e
      exact (hn a ha).thg k v (get_set_ne n h2) hb
    · have h1 := get_set_ne q h1
      by_cases q2 : i = k
      · subst q2
        obtain ⟨e, _⟩ := get_set_eq h2
        cases e
        exact (hn a hb).thg j u h1 ha
      · exact s.thg.two j k u v n h1 (get_set_ne q2 h2) a ha hb
end
/-! ### cells -/
inductive FV where
  | dat (d : D) | ref (a : Addr)
def FvOk (K : PySem.W.Frag) (G : Hp) (v : V) : FV → Prop
  | .dat d => Dp K G v d
  | .ref a => v = .ref a
def FsOk (K : PySem.W.Frag) (G : Hp) : List (Str × V) → List (Str × FV) → Prop
  | [], [] => True
  | (f, v) :: r, (g, x) :: r' => f = g ∧ FvOk K G v x ∧ FsOk K G r r'
  | _, _ => False
def putG (f : Str) (v : FV) : List (Str × FV) → List (Str × FV)
  | [] => [(f, v)]
  | (g, x) :: r => if g = f then (g, v) :: r else (g, x) :: putG f v r
section
variable {K : PySem.W.Frag} {G G2 : Hp}
theorem FvOk.up {v : V} {x : FV} (h : FvOk K G v x) (e : Ex G G2) : FvOk K G2 v x := by
  cases x with
  | dat d => exact Dp.up h e
  | ref a => exact h
theorem FsOk.up (e : Ex G G2) : ∀ {fs : List (Str × V)} {fl : List (Str × FV)}, FsOk K G fs fl → FsOk K G2 fs fl
  | [], [], h => h
  | (f, v) :: r, (g, x) :: r', ⟨h1, h2, h3⟩ => ⟨h1, h2.up e, FsOk.up e h3⟩
  | [], _ :: _, h => h.elim
  | _ :: _, [], h => h.elim
theorem FsOk.some_ {f : Str} {x : FV} : ∀ {fs : List (Str × V)} {fl : List (Str × FV)}, FsOk K G fs fl → fl.lookup f = some x → ∃ v, fs.lookup f = some v ∧ FvOk K G v x
  | [], [], _, e => by cases e
  | (g, v) :: r, (g', y) :: r', ⟨h1, h2, h3⟩, e => by
    subst h1
    rw [List.lookup_cons] at e ⊢
    cases q : f == g with
    | true => rw [q] at e; cases e; exact ⟨v, rfl, h2⟩
    | false => rw [q] at e; exact FsOk.some_ h3 e
  | [], _ :: _, h, _ => h.elim
  | _ :: _, [], h, _ => h.elim
theorem FsOk.none_ {f : Str} : ∀ {fs : List (Str × V)} {fl : List (Str × FV)}, FsOk K G fs fl → fl.lookup f = none → fs.lookup f = none
  | [], [], _, _ => rfl
  | (g, v) :: r, (g', y) :: r', ⟨h1, h2, h3⟩, e => by
    subst h1
    rw [List.lookup_cons] at e ⊢
    cases q : f == g with
    | true => rw [q] at e; cases e
    | false => rw [q] at e; exact FsOk.none_ h3 e
  | [], _ :: _, h, _ => h.elim
  | _ :: _, [], h, _ => h.elim
theorem FsOk.put {f : Str} {v : V} {x : FV} (hv : FvOk K G v x) : ∀ {fs : List (Str × V)} {fl : List (Str × FV)}, FsOk K G fs fl → FsOk K G (putF f v fs) (putG f x fl)
  | [], [], _ => ⟨rfl, hv, trivial⟩
  | (g, u) :: r, (g', y) :: r', ⟨h1, h2, h3⟩ => by
    subst h1
    unfold putF putG
    by_cases q : g = f
    · rw [if_pos q, if_pos q]; exact ⟨rfl, hv, h3⟩
    · rw [if_neg q, if_neg q]; exact ⟨rfl, h2, FsOk.put hv h3⟩
  | [], _ :: _, h => h.elim
  | _ :: _, [], h => h.elim
theorem FsOk.len : ∀ {fs : List (Str × V)} {fl : List (Str × FV)}, FsOk K G fs fl → fs.length = fl.length
  | [], [], _ => rfl
  | (g, u) :: r, (g', y) :: r', ⟨_, _, h3⟩ => by rw [List.length_cons, List.length_cons, FsOk.len h3]
  | [], _ :: _, h => h.elim
  | _ :: _, [], h => h.elim
end
/-- an instance -/
def insC (C x dx : Addr) (fl : List (Str × FV)) : Cell := ⟨x, fun K G o => ∃ fs, o = .ins C dx fs ∧ FsOk K G fs fl, fun _ _ _ _ e ⟨fs, h1, h2⟩ => ⟨fs, h1, h2.up e⟩, fun _ _ _ ⟨_, h, _⟩ => by rw [h]; trivial⟩
/-- its dict -/
def ownC (x dx : Addr) : Cell := ⟨dx, fun _ _ o => o = .own x, fun _ _ _ _ _ h => h, fun _ _ _ h => by rw [h]; trivial⟩
/-- a list of data -/
def lstC (r : Addr) (ds : List D) : Cell := ⟨r, fun K G o => ∃ vs, o = .lst vs ∧ DpAll K G vs ds, fun _ _ _ _ e ⟨vs, h1, h2⟩ => ⟨vs, h1, h2.up e⟩, fun _ _ _ ⟨_, h, _⟩ => by rw [h]; trivial⟩
/-- an instance with what hangs on it -/
def instT (C x dx : Addr) (fl : List (Str × FV)) (more : List Cell) (w : Bool := true) : Thg := ⟨x, insC C x dx fl :: ownC x dx :: more, w⟩
section
variable {K : PySem.W.Frag} {G H : Hp} {out : Hp} {C x dx : Addr} {fl : List (Str × FV)} {more : List Cell} {w : Bool}
theorem instT.ins (h : (instT C x dx fl more w).Ok K out G H) : ∃ fs, H x = some (.ins C dx fs) ∧ FsOk K G fs fl := by
  obtain ⟨_, _, o, a3, fs, rfl, r⟩ := h.ok _ (List.mem_cons_self)
  exact ⟨fs, a3, r⟩
end
end DL
/-! DL29: attributes of a thing: read, set; a list that hangs on a thing: read, appended to, popped. -/
namespace DL
open PySem PySem.Spec PyProof.Rows L2 LamX
section
variable {K : PySem.W.Frag} {out G H G2 : Hp} {t : Thg} {C x dx r : Addr} {fl : List (Str × FV)} {more : List Cell} {ds ds' : List D} {vs : List V} {w : Bool}
theorem instT.lst (h : (instT C x dx fl more w).Ok K out G H) (hm : lstC r ds ∈ more) : ∃ vs, H r = some (.lst vs) ∧ DpAll K G vs ds := by
  obtain ⟨_, _, o, a3, vs, rfl, rr⟩ := h.ok _ (List.mem_cons_of_mem _ (List.mem_cons_of_mem _ hm))
  exact ⟨vs, a3, rr⟩
theorem instT.has_x : (instT C x dx fl more).Has x := ⟨_, List.mem_cons_self, rfl⟩
theorem instT.has_more {a : Addr} (c : Cell) (h : c ∈ more) (e : c.at_ = a) : (instT C x dx fl more).Has a := ⟨c, List.mem_cons_of_mem _ (List.mem_cons_of_mem _ h), e⟩
theorem instT.has_to {a : Addr} {fl' : List (Str × FV)} (h : (instT C x dx fl more).Has a) : (instT C x dx fl' more).Has a := by
  obtain ⟨c, hc, e⟩ := h
  rcases List.mem_cons.mp hc with rfl | hc
  · exact ⟨_, List.mem_cons_self, e⟩
  · exact ⟨c, List.mem_cons_of_mem _ hc, e⟩
/-- an attribute is put -/
theorem instT.put {f : Str} {v : V} {y : FV} {fs : List (Str × V)} (h : (instT C x dx fl more).Ok K out G H) (hd : dx ≠ x) (hx : ∀ c ∈ more, c.at_ ≠ x) (r : FsOk K G fs fl) (rv : FvOk K G v y) : (instT C x dx (putG f y fl) more).Ok K out G (upd H x (.ins C dx (putF f v fs))) := ⟨fun c hc => by
  rcases List.mem_cons.mp hc with rfl | hc
  · obtain ⟨a1, a2, _⟩ := h.ok _ (List.mem_cons_self)
    exact ⟨a1, a2, _, upd_same, _, rfl, r.put rv⟩
  · obtain ⟨a1, a2, o, a3, a4⟩ := h.ok _ (List.mem_cons_of_mem _ hc)
    have ne : c.at_ ≠ x := by
      rcases List.mem_cons.mp hc with rfl | hc
      · exact hd
      · exact hx c hc
    exact ⟨a1, a2, o, by rw [upd_ne ne]; exact a3, a4⟩⟩
/-- its list is changed -/
theorem instT.setL (h : (instT C x dx fl (lstC r ds :: more)).Ok K out G H) (hx : r ≠ x) (hd : r ≠ dx) (hm : ∀ c ∈ more, c.at_ ≠ r) (rv : DpAll K G vs ds') : (instT C x dx fl (lstC r ds' :: more)).Ok K out G (upd H r (.lst vs)) := ⟨fun c hc => by
  rcases List.mem_cons.mp hc with rfl | hc
  · obtain ⟨a1, a2, o, a3, a4⟩ := h.ok _ (List.mem_cons_self)
    exact ⟨a1, a2, o, by rw [show (insC C x dx fl).at_ = x from rfl, upd_ne (Ne.symm hx)]; exact a3, a4⟩
  rcases List.mem_cons.mp hc with rfl | hc
  · obtain ⟨a1, a2, o, a3, a4⟩ := h.ok _ (List.mem_cons_of_mem _ List.mem_cons_self)
    exact ⟨a1, a2, o, by rw [show (ownC x dx).at_ = dx from rfl, upd_ne (Ne.symm hd)]; exact a3, a4⟩
  rcases List.mem_cons.mp hc with rfl | hc
  · obtain ⟨a1, a2, o, a3, a4⟩ := h.ok (lstC r ds) (List.mem_cons_of_mem _ (List.mem_cons_of_mem _ List.mem_cons_self))
    exact ⟨a1, a2, _, upd_same, vs, rfl, rv⟩
  · obtain ⟨a1, a2, o, a3, a4⟩ := h.ok _ (List.mem_cons_of_mem _ (List.mem_cons_of_mem _ (List.mem_cons_of_mem _ hc)))
    exact ⟨a1, a2, o, by rw [upd_ne (hm c hc)]; exact a3, a4⟩⟩
/-- a list hangs on it from now on -/
theorem instT.newL (h : (instT C x dx fl more).Ok K out G H) (h0 : out r = none) (hg : G r = none) (hh : H r = some (.lst vs)) (rv : DpAll K G vs ds) : (instT C x dx fl (lstC r ds :: more)).Ok K out G H := ⟨fun c hc => by
  rcases List.mem_cons.mp hc with rfl | hc
  · exact h.ok _ List.mem_cons_self
  rcases List.mem_cons.mp hc with rfl | hc
  · exact h.ok _ (List.mem_cons_of_mem _ List.mem_cons_self)
  rcases List.mem_cons.mp hc with rfl | hc
  · exact ⟨fun _ => h0, hg, _, hh, vs, rfl, rv⟩
  · exact h.ok _ (List.mem_cons_of_mem _ (List.mem_cons_of_mem _ hc))⟩
end
section
variable {X : Cx} {F : Fr0} {H0 : Bs} {ρ : Env} {N : DEnd} {C y dx r : Addr} {fl : List (Str × FV)} {more : List Cell} {i : Nat} {x f : Str} {d : D} {ds : List D} {e : Expr} {pos pos' p1 p2 p3 : Pos} {rest : List Stmt} {w : Bool}
/-- x.f, data -/
theorem de_fld (i : Nat) (h : ρ[i]? = some (.thg (instT C y dx fl more w))) (hf : fl.lookup f = some (.dat d)) (c : Cls X.K C) (n : NoAttr X.K C f) (hN : X.N[i]? = some x := by rfl) (hv : Vis X.env.scope x := by first | exact Or.inl rfl | exact Or.inr (Or.inl rfl) | exact Or.inr (Or.inr rfl)) (hd : (x == ("__debug__" : Str)) = false := by decide)
    (hcd : (x == ("__classdict__" : Str)) = false := by decide) (hb : attributeBase (.Name x p1) f X.env (eval (.Name x p1) X.env) = eval (.Name x p1) X.env := by rfl) : DE X H0 ρ (.Attribute (.Name x p1) f pos) d :=
  (pe_fld (pv i hN hv hd hcd) hb).imp fun σ H Q ⟨G, ex, sl, q⟩ => by
    obtain ⟨hr, tok⟩ := sl.thg.at_ i _ h
    obtain ⟨fs, hx, rr⟩ := instT.ins tok
    obtain ⟨v, hl, rv⟩ := rr.some_ hf
    exact ⟨.ref y, hr, y, C, dx, fs, v, rfl, hx, c, n, hl, q v G H (Ext.refl ex) rv⟩
/-- x.f, a list that hangs on it -/
theorem dr_fld (i : Nat) (h : ρ[i]? = some (.thg (instT C y dx fl more w))) (hf : fl.lookup f = some (.ref r)) (hm : lstC r ds ∈ more) (c : Cls X.K C) (n : NoAttr X.K C f) (hN : X.N[i]? = some x := by rfl) (hv : Vis X.env.scope x := by first | exact Or.inl rfl | exact Or.inr (Or.inl rfl) | exact Or.inr (Or.inr rfl)) (hd : (x == ("__debug__" : Str)) = false := by decide)
    (hcd : (x == ("__classdict__" : Str)) = false := by decide) (hb : attributeBase (.Name x p1) f X.env (eval (.Name x p1) X.env) = eval (.Name x p1) X.env := by rfl) : DR X H0 ρ (.Attribute (.Name x p1) f pos) ds :=
  (pe_fld (pv i hN hv hd hcd) hb).imp fun σ H Q ⟨G, ex, sl, q⟩ => by
    obtain ⟨hr, tok⟩ := sl.thg.at_ i _ h
    obtain ⟨fs, hx, rr⟩ := instT.ins tok
    obtain ⟨v, hl, rv⟩ := rr.some_ hf
    obtain ⟨vs, h1, h2⟩ := instT.lst tok hm
    cases rv
    exact ⟨.ref y, hr, y, C, dx, fs, _, rfl, hx, c, n, hl, q r vs G H (Ext.refl ex) (.inl (.inl h1)) h2⟩
/-- x.f = data -/
theorem ds_fld (i : Nat) (h : ρ[i]? = some (.thg (instT C y dx fl more))) (he : DE X F.H0 ρ e d) (c : Cls X.K C) (n : NoAttr X.K C f) (hl : fl.length < 1000) (hdx : dx ≠ y) (hx : ∀ c ∈ more, c.at_ ≠ y) (hr : DS X F (ρ.set i (.thg (instT C y dx (putG f (.dat d) fl) more))) rest N) (hN : X.N[i]? = some x := by rfl) (hv : Vis X.env.scope x := by first | exact Or.inl rfl | exact Or.inr (Or.inl rfl) | exact Or.inr (Or.inr rfl)) (hd : (x == ("__debug__" : Str)) = false := by decide)
    (hcd : (x == ("__classdict__" : Str)) = false := by decide) (hs : swapsWith e (some (.Attribute (.Name x p1) f pos')) pos.line X.env = pure false := by rfl) : DS X F ρ (.Assign [.Attribute (.Name x p1) f pos'] e pos :: rest) N :=
  (pss_cons (ps_fld (pv i hN hv hd hcd) he hs) hr).imp fun D σ H ⟨G, ex, sl, a⟩ => ⟨G, ex.gh, sl, fun v G1 H1 y1 rv => by
    have s1 := sl.up y1
    obtain ⟨hr, tok⟩ := s1.thg.at_ i _ h
    obtain ⟨fs, hxx, rr⟩ := instT.ins tok
    have yy := Ext.cell (o := .ins C dx (putF f v fs)) y1.gh tok instT.has_x
    exact ⟨.ref y, hr, y, C, dx, fs, rfl, hxx, c, n, by rw [rr.len]; exact hl, tS_up (D := D) ((ex.trans y1).chg tok rfl yy) y1.g (s1.chg h yy (instT.put tok hdx hx rr rv) rfl fun a ha => .inl (instT.has_to ha)) a⟩⟩
/-- x.f = a new list, which hangs on it from now on -/
theorem ds_fldL (i : Nat) (h : ρ[i]? = some (.thg (instT C y dx fl more))) (he : DL X F.H0 ρ e ds) (c : Cls X.K C) (n : NoAttr X.K C f) (hl : fl.length < 1000) (hdx : dx ≠ y) (hx : ∀ c ∈ more, c.at_ ≠ y) (hr : ∀ r, r ≠ y → r ≠ dx → (∀ c ∈ more, c.at_ ≠ r) → DS X F (ρ.set i (.thg (instT C y dx (putG f (.ref r) fl) (lstC r ds :: more)))) rest N) (hN : X.N[i]? = some x := by rfl) (hv : Vis X.env.scope x := by first | exact Or.inl rfl | exact Or.inr (Or.inl rfl) | exact Or.inr (Or.inr rfl)) (hd : (x == ("__debug__" : Str)) = false := by decide)
    (hcd : (x == ("__classdict__" : Str)) = false := by decide) (hs : swapsWith e (some (.Attribute (.Name x p1) f pos')) pos.line X.env = pure false := by rfl) : DS X F ρ (.Assign [.Attribute (.Name x p1) f pos'] e pos :: rest) N :=
  (pss_cons (ps_fld (pv i hN hv hd hcd) he hs) PSs.any).imp fun D σ H ⟨G, ex, sl, a⟩ => ⟨G, ex.gh, sl, fun r vs G1 H1 y1 n0 n1 hrr rv => by
    have s1 := sl.up y1
    obtain ⟨hro, tok⟩ := s1.thg.at_ i _ h
    have tok0 := (sl.thg.at_ i _ h).2
    have hnr : ∀ a, (instT C y dx fl more).Has a → a ≠ r := fun a ha z => tok0.ne n0 (z ▸ ha)
    have e1 : y ≠ r := hnr _ instT.has_x
    have e2 : dx ≠ r := hnr _ ⟨_, List.mem_cons_of_mem _ List.mem_cons_self, rfl⟩
    have e3 : ∀ c ∈ more, c.at_ ≠ r := fun c hc => hnr _ (instT.has_more c hc rfl)
    obtain ⟨fs, hxx, rr⟩ := instT.ins tok
    have yy := Ext.cell (o := .ins C dx (putF f (.ref r) fs)) y1.gh tok instT.has_x
    have t2 := instT.newL (r := r) (ds := ds) tok (ex.h.back n0) n1 hrr rv
    have t3 := instT.put (f := f) (v := .ref r) (y := .ref r) t2 hdx (fun c hc => by
      rcases List.mem_cons.mp hc with rfl | hc
      · exact e1.symm
      · exact hx c hc) rr rfl
    -- the new list stands apart: through the frame before
    have s2 : Slots X.K F.H0 G1 (upd H1 y (.ins C dx (putF f (.ref r) fs))) σ (ρ.set i (.thg (instT C y dx (putG f (.ref r) fl) (lstC r ds :: more)))) := by
      have yz : Ext G (delT H (instT C y dx fl more)) G1 (upd H1 y (.ins C dx (putF f (.ref r) fs))) := by
        refine ⟨y1.g, fun b u hb => ?_, yy.gh, fun b u hb nb => ?_, y1.nt⟩
        · have nb : ¬ (instT C y dx fl more).Has b := fun z => by rw [delT_in z] at hb; cases hb
          rw [delT_out nb] at hb
          have ne : b ≠ y := fun z => nb (z ▸ instT.has_x)
          rw [upd_ne ne]; exact y1.h b u hb
        · have := y1.nw b u hb nb
          by_cases z : (instT C y dx fl more).Has b
          · exact delT_in z
          · rw [delT_out z]; exact this
      refine sl.chg h yz t3 rfl fun b hb => ?_
      obtain ⟨c9, hc, rfl⟩ := hb
      rcases List.mem_cons.mp hc with rfl | hc
      · exact .inl instT.has_x
      rcases List.mem_cons.mp hc with rfl | hc
      · exact .inl ⟨_, List.mem_cons_of_mem _ List.mem_cons_self, rfl⟩
      rcases List.mem_cons.mp hc with rfl | hc
      · exact .inr n0
      · exact .inl (instT.has_more c9 hc rfl)
    exact ⟨.ref y, hro, y, C, dx, fs, rfl, hxx, c, n, by rw [rr.len]; exact hl, _, hr r e1.symm e2.symm e3, tS_up (D := D) ((ex.trans y1).chg tok rfl yy) y1.g s2 a⟩⟩
/-- x.f.append(e) -/
theorem ds_fapp (i : Nat) (h : ρ[i]? = some (.thg (instT C y dx fl (lstC r ds :: more)))) (hf : fl.lookup f = some (.ref r)) (he : DE X F.H0 ρ e d) (hz : ds.length < 100000) (c : Cls X.K C) (n : NoAttr X.K C f) (hx : r ≠ y) (hdx : r ≠ dx) (hm : ∀ c ∈ more, c.at_ ≠ r) (hr : DS X F (ρ.set i (.thg (instT C y dx fl (lstC r (ds ++ [d]) :: more)))) rest N) (hN : X.N[i]? = some x := by rfl) (hv : Vis X.env.scope x := by first | exact Or.inl rfl | exact Or.inr (Or.inl rfl) | exact Or.inr (Or.inr rfl)) (hd : (x == ("__debug__" : Str)) = false := by decide)
    (hcd : (x == ("__classdict__" : Str)) = false := by decide) (hb0 : attributeBase (.Name x p1) f X.env (eval (.Name x p1) X.env) = eval (.Name x p1) X.env := by rfl)
    (hs : swapsWith (.Call (.Attribute (.Attribute (.Name x p1) f p3) "append" p2) [e] [] pos) none pos'.line X.env = pure false := by rfl) (hb : attributeBase (.Attribute (.Name x p1) f p3) "append" X.env (eval (.Attribute (.Name x p1) f p3) X.env) = eval (.Attribute (.Name x p1) f p3) X.env := by rfl) (hfew : ((backTo pos (starEach (e :: []) X.env)).all (fun x => !x.1) && (backToKw pos (keywordEach [] X.env)).all (fun x => x.1.isSome) && decide ((e :: []).length + ([] : List Keyword).length + (if ([] : List Keyword).isEmpty then 0 else 1) < 30)) = true := by rfl) (hl : (p2.endLine == pos.line) = true := by rfl)
    (he1 : starEach (e :: []) X.env = (false, eval e X.env) :: starEach [] X.env := by rfl) (hpl : (backTo pos (starEach [] X.env)).any (·.1) = false := by rfl) :
    DS X F ρ (.Expr (.Call (.Attribute (.Attribute (.Name x p1) f p3) "append" p2) [e] [] pos) pos' :: rest) N :=
  (pss_cons (ps_expr (pe_bm PySem.F.plainAttrs_list PySem.F.slot_list_append PySem.F.type_list_append mt_append (pe_fld (pv i hN hv hd hcd) hb0) (pa_one he he1) hb hfew hl he1 hpl) hs) hr).imp fun D σ H ⟨G, ex, sl, a⟩ => by
    obtain ⟨hro, tok⟩ := sl.thg.at_ i _ h
    obtain ⟨fs, hxx, rr⟩ := instT.ins tok
    obtain ⟨v0, hl0, rv0⟩ := rr.some_ hf
    obtain ⟨vs, hh, rl⟩ := instT.lst tok List.mem_cons_self
    cases rv0
    refine ⟨.ref y, hro, y, C, dx, fs, _, rfl, hxx, c, n, hl0, .inl ⟨rfl, vs, .inl (.inl hh)⟩, G, ex.gh, sl, fun v G1 H1 y1 rv => ⟨r, vs, v, rfl, rfl, y1.h _ _ hh, by rw [rl.length]; exact Nat.lt_of_lt_of_le hz (by decide), ?_⟩⟩
    have s1 := sl.up y1
    have tok1 := (s1.thg.at_ i _ h).2
    have yy := Ext.cell (o := .lst (vs ++ [v])) y1.gh tok1 (instT.has_more _ List.mem_cons_self rfl)
    exact tS_up (D := D) ((ex.trans y1).chg tok1 rfl yy) y1.g (s1.chg h yy (instT.setL tok1 hx hdx hm ((rl.up y1.g).app (DpAll.one rv))) rfl fun b hb => .inl (by
      obtain ⟨c9, hc, e9⟩ := hb
      rcases List.mem_cons.mp hc with rfl | hc
      · exact ⟨_, List.mem_cons_self, e9⟩
      rcases List.mem_cons.mp hc with rfl | hc
      · exact ⟨_, List.mem_cons_of_mem _ List.mem_cons_self, e9⟩
      rcases List.mem_cons.mp hc with rfl | hc
      · exact instT.has_more (lstC r ds) List.mem_cons_self e9
      · exact instT.has_more c9 (List.mem_cons_of_mem _ hc) e9)) a
/-- x.f.pop() -/
theorem ds_fpop (i : Nat) (h : ρ[i]? = some (.thg (instT C y dx fl (lstC r ds :: more)))) (hf : fl.lookup f = some (.ref r)) (hj : ds[ds.length - 1]? = some d) (c : Cls X.K C) (n : NoAttr X.K C f) (hx : r ≠ y) (hdx : r ≠ dx) (hm : ∀ c ∈ more, c.at_ ≠ r) (hr : DS X F (ρ.set i (.thg (instT C y dx fl (lstC r ds.dropLast :: more)))) rest N) (hN : X.N[i]? = some x := by rfl) (hv : Vis X.env.scope x := by first | exact Or.inl rfl | exact Or.inr (Or.inl rfl) | exact Or.inr (Or.inr rfl)) (hd : (x == ("__debug__" : Str)) = false := by decide)
    (hcd : (x == ("__classdict__" : Str)) = false := by decide) (hb0 : attributeBase (.Name x p1) f X.env (eval (.Name x p1) X.env) = eval (.Name x p1) X.env := by rfl)
    (hs : swapsWith (.Call (.Attribute (.Attribute (.Name x p1) f p3) "pop" p2) [] [] pos) none pos'.line X.env = pure false := by rfl) (hb : attributeBase (.Attribute (.Name x p1) f p3) "pop" X.env (eval (.Attribute (.Name x p1) f p3) X.env) = eval (.Attribute (.Name x p1) f p3) X.env := by rfl) (hl : (p2.endLine == pos.line) = true := by rfl) :
    DS X F ρ (.Expr (.Call (.Attribute (.Attribute (.Name x p1) f p3) "pop" p2) [] [] pos) pos' :: rest) N :=
  (pss_cons (ps_expr (pe_bm0 PySem.F.plainAttrs_list PySem.F.slot_list_pop PySem.F.type_list_pop mt_pop (pe_fld (pv i hN hv hd hcd) hb0) hb hl) hs) hr).imp fun D σ H ⟨G, ex, sl, a⟩ => by
    obtain ⟨hro, tok⟩ := sl.thg.at_ i _ h
    obtain ⟨fs, hxx, rr⟩ := instT.ins tok
    obtain ⟨v0, hl0, rv0⟩ := rr.some_ hf
    obtain ⟨vs, hh, rl⟩ := instT.lst tok List.mem_cons_self
    cases rv0
    obtain ⟨v, hv9, rv⟩ := rl.at hj
    refine ⟨.ref y, hro, y, C, dx, fs, _, rfl, hxx, c, n, hl0, .inl ⟨rfl, vs, .inl (.inl hh)⟩, r, vs, v, rfl, rfl, hh, by rw [rl.length]; exact hv9, ?_⟩
    have yy := Ext.cell (o := .lst vs.dropLast) ex.gh tok (instT.has_more _ List.mem_cons_self rfl)
    exact tS_up (D := D) (ex.chg tok rfl yy) (Ex.refl G) (sl.chg h yy (instT.setL tok hx hdx hm rl.dropLast) rfl fun b hb => .inl (by
      obtain ⟨c9, hc, e9⟩ := hb
      rcases List.mem_cons.mp hc with rfl | hc
      · exact ⟨_, List.mem_cons_self, e9⟩
      rcases List.mem_cons.mp hc with rfl | hc
      · exact ⟨_, List.mem_cons_of_mem _ List.mem_cons_self, e9⟩
      rcases List.mem_cons.mp hc with rfl | hc
      · exact instT.has_more (lstC r ds) List.mem_cons_self e9
      · exact instT.has_more c9 (List.mem_cons_of_mem _ hc) e9)) a
end
end DL
/-! DL30: methods: what they promise of the thing (spS changes it, spR reads it alone); a method by its body; calls. -/
namespace DL
open PySem PySem.Spec PyProof.Rows L2 LamX
def noneH : Hp := fun _ => none
/-- only to be read -/
def Thg.ro (t : Thg) : Thg := { t with w := false }
theorem Thg.ro_ok {K : PySem.W.Frag} {out out' G H : Hp} {t : Thg} (h : t.Ok K out G H) : t.ro.Ok K out' G H := ⟨fun c hc => by
  obtain ⟨_, a2, a3⟩ := h.ok c hc
  exact ⟨fun z => (nomatch z), a2, a3⟩⟩
theorem Thg.Ok.out_to {K : PySem.W.Frag} {out out' G H : Hp} {t : Thg} (h : t.Ok K out G H) (e : ∀ a, t.Has a → out' a = none) : t.Ok K out' G H := ⟨fun c hc => by
  obtain ⟨_, a2, a3⟩ := h.ok c hc
  exact ⟨fun _ => e _ ⟨c, hc, rfl⟩, a2, a3⟩⟩
theorem roro {K : PySem.W.Frag} {out out' G H : Hp} {t : Thg} (h : t.ro.Ok K out G H) : t.ro.Ok K out' G H := ⟨fun c hc => by
  obtain ⟨_, a2, a3⟩ := h.ok c hc
  exact ⟨fun z => (nomatch z), a2, a3⟩⟩
/-- a method that may change the thing -/
def spS (K : PySem.W.Frag) (mg : Str → Option Value) {α β : Type} (th : β → Thg) (enc : α → List D) (pre : β → α → Prop) (ok : β → α → D → β → Prop) (er : β → α → Str → Prop) : Sp := fun vs H Q E => ∃ (b : β) (a : α) (G : Hp) (vr : List V), vs = .ref (th b).root :: vr ∧ Ex G H ∧ (th b).Ok K noneH G H ∧ DpAll K G vr (enc a) ∧ pre b a ∧
  (∀ d b' v G2 H2, ok b a d b' → Ext G (delT H (th b)) G2 H2 → (th b').Ok K noneH G2 H2 → (th b').root = (th b).root → (∀ x, (th b').Has x → (th b).Has x ∨ H x = none) → Dp K G2 v d → Q v H2) ∧
  (∀ n C G2 H2, er b a n → mg n = some (.ref C) → Ext G (delT H (th b)) G2 H2 → (th b).Ok K noneH G2 H2 → E (.ref C) none H2)
/-- a method that reads it -/
def spR (K : PySem.W.Frag) (mg : Str → Option Value) {α β : Type} (th : β → Thg) (enc : α → List D) (pre : β → α → Prop) (res : β → α → Out) : Sp := fun vs H Q E => ∃ (b : β) (a : α) (G : Hp) (vr : List V), vs = .ref (th b).root :: vr ∧ Ex G H ∧ (th b).ro.Ok K noneH G H ∧ DpAll K G vr (enc a) ∧ pre b a ∧
  (∀ d v G2 H2, res b a = .ok d → Ext G H G2 H2 → Dp K G2 v d → Q v H2) ∧ (∀ n C G2 H2, res b a = .err n → mg n = some (.ref C) → Ext G H G2 H2 → E (.ref C) none H2)
def startT (N : List Str) (t : Thg) (ds : List D) : Env := .thg t :: (ds.map .dat ++ List.replicate (N.length - ds.length - 1) .un)
theorem slots_startT {K : PySem.W.Frag} {B : Bs} {G H : Hp} {vs : List V} {ds : List D} {t : Thg} (N : List Str) (hB : B.inv H) (e : Ex G H) (tok : t.Ok K B.out G H) (r : DpAll K G vs ds) : Slots K B G H (L2.start N (.ref t.root :: vs)) (startT N t ds) := by
  have hs : L2.start N (.ref t.root :: vs) = some (.ref t.root) :: (vs.map some ++ List.replicate (N.length - ds.length - 1) none) := by
    unfold L2.start
    rw [List.map_cons, List.cons_append, List.length_cons, r.length]
    congr 3
  have hn : ∀ {m : Nat} {z : Sl}, (startT N t ds)[m]? = some z → (m = 0 ∧ z = .thg t) ∨ (∃ n d, m = n + 1 ∧ ds[n]? = some d ∧ z = .dat d) ∨ z = .un := fun {m z} q => by
    cases m with
    | zero =>
      unfold startT at q
      injection q with q
      exact .inl ⟨rfl, q.symm⟩
    | succ m =>
      have q : (ds.map Sl.dat ++ List.replicate (N.length - ds.length - 1) Sl.un)[m]? = some z := q
      by_cases hi : m < ds.length
      · rw [List.getElem?_append_left (by simpa using hi), List.getElem?_map, List.getElem?_eq_getElem hi] at q
        exact .inr (.inl ⟨m, ds[m], rfl, List.getElem?_eq_getElem hi, (Option.some.inj q).symm⟩)
      · rw [List.getElem?_append_right (by simpa using hi), List.getElem?_replicate] at q
        split at q
        · exact .inr (.inr (Option.some.inj q).symm)
        · cases q
  rw [hs]
  refine ⟨by unfold startT; simp [r.length], fun i d q => ?_, fun i es p0 q => ?_, fun i j es fs p0 p1 p2 hij h1 h2 _ _ => ?_, fun i es p2 q h1 h2 => ?_, hB, fun i v9 q => ?_, ⟨fun i u q => ?_, fun i j es p0 u p h1 _ _ => ?_, fun i j u u' n h1 h2 => ?_⟩⟩
  · rcases hn q with ⟨_, z⟩ | ⟨n, d', rfl, hd, z⟩ | z
    · cases z
    · cases z
      obtain ⟨v, hv, rv⟩ := r.at hd
      refine ⟨v, ?_, rv⟩
      show (vs.map some ++ List.replicate (N.length - ds.length - 1) none)[n]? = _
      have hl : n < vs.length := (List.getElem?_eq_some_iff.mp hv).1
      rw [List.getElem?_append_left (by simpa using hl), List.getElem?_map, hv]
      rfl
    · cases z
  · rcases hn q with ⟨_, z⟩ | ⟨n, d', rfl, hd, z⟩ | z <;> cases z
  · rcases hn h1 with ⟨_, z⟩ | ⟨n, d', rfl, hd, z⟩ | z <;> cases z
  · rcases hn h1 with ⟨_, z⟩ | ⟨n, d', rfl, hd, z⟩ | z <;> cases z
  · rcases hn q with ⟨_, z⟩ | ⟨n, d', rfl, hd, z⟩ | z <;> cases z
  · rcases hn q with ⟨rfl, z⟩ | ⟨n, d', rfl, hd, z⟩ | z
    · cases z
      exact ⟨rfl, tok⟩
    · cases z
    · cases z
  · rcases hn h1 with ⟨_, z⟩ | ⟨n, d', rfl, hd, z⟩ | z <;> cases z
  · rcases hn h1 with ⟨rfl, z⟩ | ⟨m, d', rfl, hd, z⟩ | z
    · rcases hn h2 with ⟨rfl, _⟩ | ⟨m, d', rfl, hd, z2⟩ | z2
      · exact (n rfl).elim
      · cases z2
      · cases z2
    · cases z
    · cases z
/-- a method and what it promises -/
def MetOk (P : Program) (w : World) (K : PySem.W.Frag) (mg : Str → Option Value) (base : Heap) (k : Nat) (C : Addr) (m : Str) (ps : List Str) (sp : Sp) : Prop := ∃ f fd, Meth K C m f ∧ Binds K fd ps [] ∧ FnOk P w K mg base (L2N.CX P w) k f fd ps sp
abbrev MetX (X : Cx) (k : Nat) (C : Addr) (m : Str) (ps : List Str) (sp : Sp) : Prop := MetOk X.prog X.w X.K X.mg X.base k C m ps sp
section
variable {P : Program} {w : World} {K : PySem.W.Frag} {mg : Str → Option Value} {base : Heap} {α β : Type} {th : β → Thg} {enc : α → List D} {pre : β → α → Prop} {ok : β → α → D → β → Prop} {er : β → α → Str → Prop} {res : β → α → Out} {m qual : Str} {st : Stmt} {N ps : List Str} {k : Nat} {C : Addr}
def endT (th : β → Thg) (ok : β → α → D → β → Prop) (er : β → α → Str → Prop) (b : β) (a : α) : DEnd := { nx := fun ρ => ∃ b', ok b a .none b' ∧ ρ[0]? = some (.thg (th b')) ∧ (th b').root = (th b).root ∧ (th b').w = true, rt := fun ρ d => ∃ b', ok b a d b' ∧ ρ[0]? = some (.thg (th b')) ∧ (th b').root = (th b).root ∧ (th b').w = true, ex := er b a, xs := fun ρ => ρ[0]? = some (.thg (th b)) }
theorem MetAt.okS (h : MetAt K C m qual st ps) (S : FnScope N ps (defScope st)) (hlen : ∀ a, (enc a).length + 1 = ps.length)
    (body : ∀ b a, pre b a → ∀ (f : Addr) (cdv : Value) (A : Around) (outer : List PySem.Env) (s : Shared) (H G : Hp) (E : XK), Room k (A.deeper (envOfC qual (defScope st) s.heap.objs.size f cdv)) →
      TakesE (cxOf (L2N.CX P w) P w K mg base N qual (defScope st) f cdv A outer s H E) ⟨.of (delT H (th b)), G, E⟩ → PassesOwn (model P w) (cxOf (L2N.CX P w) P w K mg base N qual (defScope st) f cdv A outer s H E).A (cxOf (L2N.CX P w) P w K mg base N qual (defScope st) f cdv A outer s H E).env (cxOf (L2N.CX P w) P w K mg base N qual (defScope st) f cdv A outer s H E).xe →
      DS (cxOf (L2N.CX P w) P w K mg base N qual (defScope st) f cdv A outer s H E) ⟨.of (delT H (th b)), G, E⟩ (startT N (th b) (enc a)) (defBody st) (endT th ok er b a)) : MetOk P w K mg base (k + 1) C m ps (spS K mg th enc pre ok er) := by
  obtain ⟨f, fd, hm, F, hb⟩ := h
  refine ⟨f, fd, hm, hb, ?_⟩
  refine F.okN S (fun vs H Q E ⟨b, a, G, vr, hv, _, _, r, _⟩ => by rw [hv, List.length_cons, r.length]; exact hlen a) (fun cdv A outer s H vs Q E hr ⟨b, a, G, vr, hv, e, tok, r, hp, q1, q2⟩ => ?_)
  subst hv
  have tk : TakesE (cxOf (L2N.CX P w) P w K mg base N qual (defScope st) f cdv A outer s H E) ⟨.of (delT H (th b)), G, E⟩ := L2N.takes_of rfl rfl rfl rfl
  have e0 : Ext G (delT H (th b)) G H := ⟨Ex.refl G, delT_ex, e, fun a o h n => (by rw [h] at n; cases n), fun _ _ h => h⟩
  have fin : ∀ {b' ρ' σ' G' H'}, (th b').w = true → ρ'[0]? = some (.thg (th b')) → Slots K (.of (delT H (th b))) G' H' σ' ρ' → (th b').Ok K noneH G' H' ∧ ∀ x, (th b').Has x → (th b).Has x ∨ H x = none := fun {b' ρ' σ' G' H'} hw h1 s' => by
    obtain ⟨_, t2⟩ := s'.thg.at_ 0 _ h1
    refine ⟨t2.out_to fun _ _ => rfl, fun x hx => ?_⟩
    have := t2.o0 hw hx
    by_cases z : (th b).Has x
    · exact .inl z
    · right
      have z2 : delT H (th b) x = none := this
      rwa [delT_out z] at z2
  refine ⟨_, body b a hp f cdv A outer s H G E hr tk (passes_of rfl), G, e0, slots_startT N trivial e (tok.out_to fun x hx => delT_in hx) r, fun ρ' σ' G' H' h x' _ s' => ?_, fun _ _ _ _ h => h.elim, fun _ _ _ _ h => h.elim, fun ρ' σ' d v G' H' h x' s' r' => ?_, fun n C' G' H' h hm x' ρ' σ' hx s' => ?_⟩
  · obtain ⟨b', h1, h2, h3, h4⟩ := h
    obtain ⟨t1, t2⟩ := fin h4 h2 s'
    exact q1 .none b' .non G' H' h1 x' t1 h3 t2 .non
  · obtain ⟨b', h1, h2, h3, h4⟩ := h
    obtain ⟨t1, t2⟩ := fin h4 h2 s'
    exact q1 d b' v G' H' h1 x' t1 h3 t2 r'
  · exact q2 n C' G' H' h hm x' ((s'.thg.at_ 0 _ hx).2.out_to fun _ _ => rfl)
/-- .. that reads -/
theorem MetAt.okR (h : MetAt K C m qual st ps) (S : FnScope N ps (defScope st)) (hlen : ∀ a, (enc a).length + 1 = ps.length)
    (body : ∀ b a, pre b a → ∀ (f : Addr) (cdv : Value) (A : Around) (outer : List PySem.Env) (s : Shared) (H G : Hp) (E : XK), Room k (A.deeper (envOfC qual (defScope st) s.heap.objs.size f cdv)) →
      TakesE (cxOf (L2N.CX P w) P w K mg base N qual (defScope st) f cdv A outer s H E) ⟨.of H, G, E⟩ → PassesOwn (model P w) (cxOf (L2N.CX P w) P w K mg base N qual (defScope st) f cdv A outer s H E).A (cxOf (L2N.CX P w) P w K mg base N qual (defScope st) f cdv A outer s H E).env (cxOf (L2N.CX P w) P w K mg base N qual (defScope st) f cdv A outer s H E).xe →
      DS (cxOf (L2N.CX P w) P w K mg base N qual (defScope st) f cdv A outer s H E) ⟨.of H, G, E⟩ (startT N (th b).ro (enc a)) (defBody st) (endOf (res b a))) : MetOk P w K mg base (k + 1) C m ps (spR K mg th enc pre res) := by
  obtain ⟨f, fd, hm, F, hb⟩ := h
  refine ⟨f, fd, hm, hb, ?_⟩
  refine F.okN S (fun vs H Q E ⟨b, a, G, vr, hv, _, _, r, _⟩ => by rw [hv, List.length_cons, r.length]; exact hlen a) (fun cdv A outer s H vs Q E hr ⟨b, a, G, vr, hv, e, tok, r, hp, q1, q2⟩ => ?_)
  subst hv
  refine ⟨_, body b a hp f cdv A outer s H G E hr (L2N.takes_of rfl rfl rfl rfl) (passes_of rfl), G, Ext.refl e, slots_startT (t := (th b).ro) N trivial e (roro tok) r, fun ρ' σ' G' H' h x' _ _ => q1 _ .non G' H' h x' .non, fun _ _ _ _ h => h.elim, fun _ _ _ _ h => h.elim, fun ρ' σ' d v G' H' h x' _ r' => q1 d v G' H' h x' r', fun n C' G' H' h hm x' _ _ _ _ => q2 n C' G' H' h hm x'⟩
end
end DL
/-! DL31: methods called: o.m(..) that reads, as data; as a statement that may raise; that changes. -/
namespace DL
open PySem PySem.Spec PyProof.Rows L2 LamX
theorem ro_root {t u : Thg} (h : t.ro = u.ro) : t.root = u.root := by
  have z : t.ro.root = u.ro.root := by rw [h]
  exact z
/-- an instance of C that has no attribute m of its own -/
def InsOf (K : PySem.W.Frag) (C : Addr) (m : Str) (t : Thg) : Prop := ∀ out G H, t.Ok K out G H → ∃ dx fs, H t.root = some (.ins C dx fs) ∧ fs.lookup m = none
theorem instT.insOf {K : PySem.W.Frag} {C x dx : Addr} {fl : List (Str × FV)} {more : List Cell} {w : Bool} {m : Str} (h : fl.lookup m = none) : InsOf K C m (instT C x dx fl more w) := fun out G H k => by
  obtain ⟨fs, h1, h2⟩ := instT.ins k
  exact ⟨dx, fs, h1, h2.none_ h⟩
section
variable {X : Cx} {H0 : Bs} {F : Fr0} {ρ : Env} {α β : Type} {th : β → Thg} {enc : α → List D} {pre : β → α → Prop} {ok : β → α → D → β → Prop} {er : β → α → Str → Prop} {res : β → α → Out} {x m : Str} {ps : List Str} {k i : Nat} {C : Addr} {t : Thg} {e : Expr} {es : List Expr} {rest : List Stmt} {d : D} {N : DEnd} {p apos pos pos' : Pos} {a : α} {b : β} {pl : Sem Bool}
/-- x.m(), which reads x -/
theorem de_meth0 (M : MetX X k C m ps (spR X.K X.mg th enc pre res)) (i : Nat) (h : ρ[i]? = some (.thg t)) (b : β) (a : α) (hro : t.ro = (th b).ro) (c : Cls X.K C) (hI : InsOf X.K C m t) (hr : Room k X.A) (hen : enc a = []) (hp : pre b a) (ho : res b a = .ok d) (hN : X.N[i]? = some x := by rfl) (hv : Vis X.env.scope x := by first | exact Or.inl rfl | exact Or.inr (Or.inl rfl) | exact Or.inr (Or.inr rfl)) (hd : (x == ("__debug__" : Str)) = false := by decide) (hcd : (x == ("__classdict__" : Str)) = false := by decide)
    (ht : eval (.Call (.Attribute (.Name x p) m apos) [] [] pos) X.env = (do
      let ov ← eval (.Name x p) X.env
      standAt apos.atName
      let (f, first) ← holding [ov] (getMethod ov m pl)
      callWith pos f first (backTo pos (starEach [] X.env)) (backToKw pos (keywordEach [] X.env))) := by rfl) : DE X H0 ρ (.Call (.Attribute (.Name x p) m apos) [] [] pos) d := by
  obtain ⟨f, fd, hm, hb, Fk⟩ := M
  refine (pe_meth0 (pl := pl) (pv i hN hv hd hcd) c hm Fk hr hb .nil passLN ht).imp fun σ H Q ⟨G, ex, sl, q⟩ => ?_
  obtain ⟨h1, tok⟩ := sl.thg.at_ i t h
  obtain ⟨dx, fs, h2, h3⟩ := hI _ _ _ tok
  have hroot : t.root = (th b).root := ro_root hro
  refine ⟨.ref t.root, h1, t.root, dx, fs, rfl, h2, h3, b, a, G, [], by rw [hroot]; rfl, ex, hro ▸ Thg.ro_ok tok, by rw [hen]; exact .nil, hp, fun d' v G2 H2 e1 y r => ?_, fun n C' G2 H2 e1 => by rw [ho] at e1; cases e1⟩
  rw [ho] at e1; cases e1
  exact q v G2 H2 y r
/-- x.m(..), which reads x -/
theorem de_meth (M : MetX X k C m ps (spR X.K X.mg th enc pre res)) (i : Nat) (h : ρ[i]? = some (.thg t)) (b : β) (a : α) (hro : t.ro = (th b).ro) (c : Cls X.K C) (hI : InsOf X.K C m t) (hr : Room k X.A) (ha : DA X H0 ρ (e :: es) (enc a)) (hp : pre b a) (ho : res b a = .ok d) (hN : X.N[i]? = some x := by rfl) (hv : Vis X.env.scope x := by first | exact Or.inl rfl | exact Or.inr (Or.inl rfl) | exact Or.inr (Or.inr rfl)) (hd : (x == ("__debug__" : Str)) = false := by decide) (hcd : (x == ("__classdict__" : Str)) = false := by decide)
    (hst : starEach (e :: es) X.env = (false, eval e X.env) :: starEach es X.env := by rfl) (hpl : (backTo pos (starEach es X.env)).any (·.1) = false := by rfl)
    (ht : eval (.Call (.Attribute (.Name x p) m apos) (e :: es) [] pos) X.env = (do
      let ov ← eval (.Name x p) X.env
      standAt apos.atName
      let (f, first) ← holding [ov] (getMethod ov m pl)
      callWith pos f first (backTo pos (starEach (e :: es) X.env)) (backToKw pos (keywordEach [] X.env))) := by rfl) : DE X H0 ρ (.Call (.Attribute (.Name x p) m apos) (e :: es) [] pos) d := by
  obtain ⟨f, fd, hm, hb, Fk⟩ := M
  refine (pe_meth (pl := pl) (pv i hN hv hd hcd) c hm Fk hr hb .nil passLN ha hst hpl ht).imp fun σ H Q ⟨G, ex, sl, q⟩ => ?_
  obtain ⟨h1, tok⟩ := sl.thg.at_ i t h
  obtain ⟨dx, fs, h2, h3⟩ := hI _ _ _ tok
  have hroot : t.root = (th b).root := ro_root hro
  refine ⟨.ref t.root, h1, t.root, dx, fs, rfl, h2, h3, G, ex, sl, fun vs G1 H1 y1 r1 => ⟨b, a, G1, vs, by rw [hroot, List.append_nil], y1.gh, hro ▸ Thg.ro_ok ((sl.up y1).thg.at_ i t h).2, r1, hp, fun d' v G2 H2 e1 y r => ?_, fun n C' G2 H2 e1 => by rw [ho] at e1; cases e1⟩⟩
  rw [ho] at e1; cases e1
  exact q v G2 H2 (y1.trans y) r
/-- x.m(..), which may change x, as a reading: what is known behind it, and of the exceptions -/
theorem pe_methS (M : MetX X k C m ps (spS X.K X.mg th enc pre ok er)) (i : Nat) (h : ρ[i]? = some (.thg (th b))) (a : α) (hw : (th b).w = true) (c : Cls X.K C) (hI : InsOf X.K C m (th b)) (hr : Room k X.A) (ha : DA X F.H0 ρ (e :: es) (enc a)) (hp : pre b a) (tk : TakesE X F) (hN : X.N[i]? = some x := by rfl) (hv : Vis X.env.scope x := by first | exact Or.inl rfl | exact Or.inr (Or.inl rfl) | exact Or.inr (Or.inr rfl)) (hd : (x == ("__debug__" : Str)) = false := by decide) (hcd : (x == ("__classdict__" : Str)) = false := by decide)
    (hst : starEach (e :: es) X.env = (false, eval e X.env) :: starEach es X.env := by rfl) (hpl : (backTo pos (starEach es X.env)).any (·.1) = false := by rfl)
    (ht : eval (.Call (.Attribute (.Name x p) m apos) (e :: es) [] pos) X.env = (do
      let ov ← eval (.Name x p) X.env
      standAt apos.atName
      let (f, first) ← holding [ov] (getMethod ov m pl)
      callWith pos f first (backTo pos (starEach (e :: es) X.env)) (backToKw pos (keywordEach [] X.env))) := by rfl) :
    PE X (.Call (.Attribute (.Name x p) m apos) (e :: es) [] pos) (fun σ H Q => ∃ G0 out G, Ext G0 out G H ∧ F.H0.out = out ∧ Slots X.K F.H0 G H σ ρ ∧ (∀ d b' v G2 H2, ok b a d b' → Ext G0 out G2 H2 → Ex G G2 → Slots X.K F.H0 G2 H2 σ (ρ.set i (.thg (th b'))) → Dp X.K G2 v d → Q v H2) ∧ (∀ n, er b a n → ∀ C G2 H2, X.mg n = some (.ref C) → Ext G0 out G2 H2 → Ex G G2 → Slots X.K F.H0 G2 H2 σ ρ → F.E (.ref C) none H2)) := by
  obtain ⟨f, fd, hm, hb, Fk⟩ := M
  refine (pe_meth (E := F.E) (pl := pl) (pv i hN hv hd hcd) c hm Fk hr hb .nil (L2N.passes_call tk fun _ _ _ _ h => h) ha hst hpl ht).imp fun σ H Q ⟨G0, out, G, ex, ho, sl, q1, q2⟩ => ?_
  subst ho
  obtain ⟨h1, tok⟩ := sl.thg.at_ i _ h
  obtain ⟨dx, fs, h2, h3⟩ := hI _ _ _ tok
  refine ⟨.ref (th b).root, h1, (th b).root, dx, fs, rfl, h2, h3, G, ex.gh, sl, fun vs G1 H1 y1 r1 => ?_⟩
  have s1 := sl.up y1
  have tok1 := (s1.thg.at_ i _ h).2
  have e1 := ex.trans y1
  refine ⟨b, a, G1, vs, by rw [List.append_nil], y1.gh, tok1.out_to fun _ _ => rfl, r1, hp, fun d b' v G2 H2 hok y t2 hroot hsub r => ?_, fun n C' G2 H2 hn hmC y t2 => ?_⟩
  · have e2 := e1.chg tok1 hw y
    refine q1 d b' v G2 H2 hok e2 (y1.g.trans y.g) (s1.chg h y (t2.out_to fun z hz => ?_) hroot hsub) r
    rcases hsub z hz with hz | hz
    · exact tok1.o0 hw hz
    · exact e1.h.back hz
  · have e2 := e1.chg tok1 hw y
    have s2 := s1.chg h y (t2.out_to fun z hz => tok1.o0 hw hz) rfl fun z hz => .inl hz
    rw [show ρ.set i (.thg (th b)) = ρ from by
      apply List.ext_getElem?
      intro j
      by_cases q : i = j
      · subst q
        rw [List.getElem?_set_self (List.getElem?_eq_some_iff.mp h).1, h]
      · rw [List.getElem?_set_ne q]] at s2
    exact q2 n hn C' G2 H2 hmC e2 (y1.g.trans y.g) s2
end
end DL
/-! DL32: x.m() that may change x; y = C(..), a new thing. -/
namespace DL
open PySem PySem.Spec PyProof.Rows L2 LamX
section
variable {X : Cx} {H0 : Bs} {F : Fr0} {ρ : Env} {α β : Type} {th : β → Thg} {enc : α → List D} {pre : β → α → Prop} {ok : β → α → D → β → Prop} {er : β → α → Str → Prop} {x y m : Str} {ps : List Str} {k i : Nat} {C f : Addr} {e : Expr} {es : List Expr} {rest : List Stmt} {d : D} {N : DEnd} {p apos pos pos' : Pos} {a : α} {b : β} {pl : Sem Bool}
theorem set_same_ {l : Env} {i : Nat} {s : Sl} (h : l[i]? = some s) : l.set i s = l := by
  apply List.ext_getElem?
  intro j
  by_cases q : i = j
  · subst q
    rw [List.getElem?_set_self (List.getElem?_eq_some_iff.mp h).1, h]
  · rw [List.getElem?_set_ne q]
/-- x.m(), which may change x, as a reading -/
theorem pe_methS0 (M : MetX X k C m ps (spS X.K X.mg th enc pre ok er)) (i : Nat) (h : ρ[i]? = some (.thg (th b))) (a : α) (hen : enc a = []) (hw : (th b).w = true) (c : Cls X.K C) (hI : InsOf X.K C m (th b)) (hr : Room k X.A) (hp : pre b a) (tk : TakesE X F) (hN : X.N[i]? = some x := by rfl) (hv : Vis X.env.scope x := by first | exact Or.inl rfl | exact Or.inr (Or.inl rfl) | exact Or.inr (Or.inr rfl)) (hd : (x == ("__debug__" : Str)) = false := by decide) (hcd : (x == ("__classdict__" : Str)) = false := by decide)
    (ht : eval (.Call (.Attribute (.Name x p) m apos) [] [] pos) X.env = (do
      let ov ← eval (.Name x p) X.env
      standAt apos.atName
      let (f, first) ← holding [ov] (getMethod ov m pl)
      callWith pos f first (backTo pos (starEach [] X.env)) (backToKw pos (keywordEach [] X.env))) := by rfl) :
    PE X (.Call (.Attribute (.Name x p) m apos) [] [] pos) (fun σ H Q => ∃ G0 out G, Ext G0 out G H ∧ F.H0.out = out ∧ Slots X.K F.H0 G H σ ρ ∧ (∀ d b' v G2 H2, ok b a d b' → Ext G0 out G2 H2 → Ex G G2 → Slots X.K F.H0 G2 H2 σ (ρ.set i (.thg (th b'))) → Dp X.K G2 v d → Q v H2) ∧ (∀ n, er b a n → ∀ C G2 H2, X.mg n = some (.ref C) → Ext G0 out G2 H2 → Ex G G2 → Slots X.K F.H0 G2 H2 σ ρ → F.E (.ref C) none H2)) := by
  obtain ⟨f, fd, hm, hb, Fk⟩ := M
  refine (pe_meth0 (E := F.E) (pl := pl) (pv i hN hv hd hcd) c hm Fk hr hb .nil (L2N.passes_call tk fun _ _ _ _ h => h) ht).imp fun σ H Q ⟨G0, out, G, ex, ho, sl, q1, q2⟩ => ?_
  subst ho
  obtain ⟨h1, tok⟩ := sl.thg.at_ i _ h
  obtain ⟨dx, fs, h2, h3⟩ := hI _ _ _ tok
  refine ⟨.ref (th b).root, h1, (th b).root, dx, fs, rfl, h2, h3, b, a, G, [], rfl, ex.gh, tok.out_to fun _ _ => rfl, by rw [hen]; exact .nil, hp, fun d b' v G2 H2 hok y t2 hroot hsub r => ?_, fun n C' G2 H2 hn hmC y t2 => ?_⟩
  · have e2 := ex.chg tok hw y
    refine q1 d b' v G2 H2 hok e2 y.g (sl.chg h y (t2.out_to fun z hz => ?_) hroot hsub) r
    rcases hsub z hz with hz | hz
    · exact tok.o0 hw hz
    · exact ex.h.back hz
  · have e2 := ex.chg tok hw y
    have s2 := sl.chg h y (t2.out_to fun z hz => tok.o0 hw hz) rfl fun z hz => .inl hz
    rw [set_same_ h] at s2
    exact q2 n hn C' G2 H2 hmC e2 y.g s2
/-- C(..): a new thing; no exception -/
def tNewT (K : PySem.W.Frag) (F : Fr0) (ρ : Env) (S : Thg → Prop) : TE := fun σ H Q => ∃ G, Ext F.G0 F.H0.out G H ∧ Slots K F.H0 G H σ ρ ∧ ∀ t G2 H2, S t → t.w = true → Ext G H G2 H2 → (∀ z, t.Has z → H z = none) → t.Ok K F.H0.out G2 H2 → Q (.ref t.root) H2
/-- the bare instance -/
def bareT (C x dx : Addr) : Thg := instT C x dx [] []
theorem pe_newT {S : Thg → Prop} (Mi : Mk X.K C f) {fd : FuncData} (hb : Binds X.K fd ps []) (Fk : FnOk X.prog X.w X.K X.mg X.base (L2N.CX X.prog X.w) k f fd ps (spS X.K X.mg th enc pre ok er)) (hbare : ∀ xa dx, dx ≠ xa → ∃ b, th b = bareT C xa dx ∧ pre b a ∧ (∀ n, ¬ er b a n) ∧ ∀ d b', ok b a d b' → d = .none ∧ (th b').w = true ∧ S (th b')) (hr : Room (k + 1) X.A) (hg : Gl X x) (hm : X.mg x = some (.ref C)) (ha : DA X F.H0 ρ (e :: es) (enc a))
    (hdb : (x == ("__debug__" : Str)) = false := by decide) (he : starEach (e :: es) X.env = (false, eval e X.env) :: starEach es X.env := by rfl) (hpl : (backTo pos (starEach es X.env)).any (·.1) = false := by rfl) : PE X (.Call (.Name x p) (e :: es) [] pos) (tNewT X.K F ρ S) :=
  (pe_make Mi Fk hr hg hm hb .nil passLN ha hdb he hpl).imp fun σ H Q ⟨G, ex, sl, q⟩ => ⟨G, ex.gh, sl, fun vs G1 H1 y1 r1 xa dx nx nd ne => by
    obtain ⟨b, hth, hp, hner, hok⟩ := hbare xa dx ne
    have gx : G1 xa = none := y1.gh.back nx
    have gd : G1 dx = none := y1.gh.back nd
    have eH : Ex H1 (upd (upd H1 dx (.own xa)) xa (.ins C dx [])) := (Ex.new nd).trans (Ex.new (by rw [upd_ne (Ne.symm ne)]; exact nx))
    have tok : (bareT C xa dx).Ok X.K noneH G1 (upd (upd H1 dx (.own xa)) xa (.ins C dx [])) := ⟨fun c hc => by
      rcases List.mem_cons.mp hc with rfl | hc
      · exact ⟨fun _ => rfl, gx, _, upd_same, [], rfl, trivial⟩
      rcases List.mem_cons.mp hc with rfl | hc
      · exact ⟨fun _ => rfl, gd, .own xa, by show upd (upd H1 dx (.own xa)) xa (.ins C dx []) dx = _; rw [upd_ne ne, upd_same], rfl⟩
      · cases hc⟩
    have hasN : ∀ z, (bareT C xa dx).Has z → H1 z = none := fun z ⟨c, hc, hz⟩ => by
      rcases List.mem_cons.mp hc with rfl | hc
      · rw [← hz]; exact nx
      rcases List.mem_cons.mp hc with rfl | hc
      · rw [← hz]; exact nd
      · cases hc
    refine ⟨b, a, G1, vs, by rw [hth, List.append_nil]; rfl, y1.gh.trans eH, hth ▸ tok, r1, hp, fun d b' v G2 H2 h y t2 hroot hsub r => ?_, fun n C' G2 H2 hn => (hner n hn).elim⟩
    obtain ⟨rfl, hw, hS⟩ := hok d b' h
    rw [hth] at y hroot hsub
    have exH : Ex H1 H2 := fun z o hz => y.h z o (by
      rw [delT_out fun hh => by rw [hasN z hh] at hz; cases hz]
      exact eH z o hz)
    have new : ∀ z, upd (upd H1 dx (.own xa)) xa (.ins C dx []) z = none → H1 z = none := fun z hz => eH.back hz
    have y2 : Ext G1 H1 G2 H2 := ⟨y.g, exH, y.gh, fun z o h1 h2 => by
      have h3 := y.nw z o h1 h2
      by_cases hh : (bareT C xa dx).Has z
      · exact hasN z hh
      · rw [delT_out hh] at h3; exact new z h3, y.nt⟩
    have hN2 : ∀ z, (th b').Has z → H1 z = none := fun z hz => by
      rcases hsub z hz with hz | hz
      · exact hasN z hz
      · exact new z hz
    refine ⟨dp_none r, ?_⟩
    have := q (th b') G2 H2 hS hw (y1.trans y2) (fun z hz => y1.h.back (hN2 z hz)) (t2.out_to fun z hz => ex.h.back (y1.h.back (hN2 z hz)))
    rw [hroot] at this
    exact this⟩
/-- y = C(..) -/
theorem ds_newT {S : Thg → Prop} (he : PE X e (tNewT X.K F ρ S)) (hr : ∀ t, S t → DS X F (ρ.set i (.thg t)) rest N) (hN : X.N.Nodup) (hi : X.N[i]? = some y := by rfl) (hx : Loc X.env.scope y := by first | exact .inl rfl | exact .inr rfl)
    (hs : swapsWith e (some (.Name y pos')) pos.line X.env = pure false := by rfl) (hf : X.fn y = true ∨ X.env.scope.names.lookup y = some .local := by first | exact .inl rfl | exact .inr rfl | assumption) : DS X F ρ (.Assign [.Name y pos'] e pos :: rest) N :=
  (pss_cons (ps_set hN hi hx he hs hf) PSs.any).imp fun D σ H ⟨G, ex, sl, a⟩ => ⟨G, ex, sl, fun t G1 H1 hS _ y1 hn tok => ⟨_, hr t hS, tS_up (D := D) (ex.trans y1) y1.g ((sl.up y1).setT tok fun z hz => sl.free (hn z hz)) a⟩⟩
end
end DL
/-! DL33: zip of two lists that can be read, in a comprehension. -/
namespace DL
open PySem PySem.Spec PyProof.Rows L2
theorem wo_pair {K : PySem.W.Frag} {G H1 : Hp} {J : It} {xs ys : List V} {ds es : List D} {n : Nat} (hn : n = min xs.length ys.length) {P : Hp → Prop} (w : L2.Walk J n P (YPair (fun i => xs[i]?) (fun i => ys[i]?))) (hp : ∀ H', Ex H1 H' → P H') (r1 : DpAll K G xs ds) (r2 : DpAll K G ys es) :
    WalkO K G H1 J (List.zipWith (fun a b => .tuple [a, b]) ds es) := by
  have hl : (List.zipWith (fun a b => PyData.tuple [a, b]) ds es).length = n := by rw [List.length_zipWith, hn, r1.length, r2.length]
  rw [WalkO, hl]
  refine ⟨_, w.mono (fun H' e => hp H' e.2) fun i H x H' hi _ y => y, fun i H' x H'' G' y e1 e2 => ?_⟩
  obtain ⟨T, u, v, rfl, hT, rfl, hu, hv⟩ := y
  obtain ⟨d, hd, rd⟩ := r1.at' hu
  obtain ⟨d2, hd2, rd2⟩ := r2.at' hv
  refine ⟨upd G' T (.tup [u, v]), .tuple [d, d2], Ext.new e2 hT, ?_, .tup (.inl (.inl upd_same)) (.cons ((rd.up e1).up (Ex.new (e2.back hT))) (.cons ((rd2.up e1).up (Ex.new (e2.back hT))) .nil))⟩
  rw [List.getElem?_zipWith, hd, hd2]
section
variable {X : Cx} {H0 : Bs} {ρ : Env} {e e2 : Expr} {elts : List Expr} {ds es : List D} {p pos tpos : Pos} {kk : Nat}
theorem dio_zip (ha : DR X H0 ρ e ds) (hb : DR X H0 ρ e2 es) (hg : Gl X "zip") (hm : X.mg "zip" = none) (hs : starEach (e :: [e2]) X.env = (false, eval e X.env) :: starEach [e2] X.env := by rfl) (hs2 : starEach (e2 :: []) X.env = (false, eval e2 X.env) :: starEach [] X.env := by rfl) (hpl : (backTo pos (starEach [e2] X.env)).any (·.1) = false := by rfl) : DIo X H0 ρ (.Tuple elts kk tpos) (.Call (.Name "zip" p) [e, e2] [] pos) (List.zipWith (fun a b => .tuple [a, b]) ds es) :=
  (RZ.pi_zipA hg hm (pa_cons ha (pa_cons hb pa_nil hs2) hs) hs hpl).imp fun σ H R ⟨G, x, sl, q⟩ => ⟨G, x, sl, fun a xs G1 H1 y h1 r1 => ⟨G1, y.gh, sl.up y, fun b ys G2 H2 y2 h2 r2 =>
    ⟨a, b, xs, ys, rfl, .inl ⟨y2.h.seqL h1, h2, q _ G2 H2 (y.trans y2) (wo_pair rfl (walk_zip rfl) (fun H' e => ⟨e.seqL (y2.h.seqL h1), e.seqL h2⟩) (r1.up y2.g) r2)⟩⟩⟩⟩
end
end DL
/-! DL34: methods that give a new list; len(x) by __len__; the place of a number in a list; a method that reads and may raise. -/
namespace DL
open PySem PySem.Spec PyProof.Rows L2 LamX
/-- a method that reads it and gives a new list -/
def spRL (K : PySem.W.Frag) (mg : Str → Option Value) {α β : Type} (th : β → Thg) (enc : α → List D) (pre : β → α → Prop) (res : β → α → List D) : Sp := fun vs H Q E => ∃ (b : β) (a : α) (G : Hp) (vr : List V), vs = .ref (th b).root :: vr ∧ Ex G H ∧ (th b).ro.Ok K noneH G H ∧ DpAll K G vr (enc a) ∧ pre b a ∧
  (∀ p ws G2 H2, Ext G H G2 H2 → H p = none → G2 p = none → H2 p = some (.lst ws) → DpAll K G2 ws (res b a) → Q (.ref p) H2)
/-- a block that returns a new list -/
def tSL (K : PySem.W.Frag) (F : Fr0) (ρ : Env) (S : List D → Prop) : TS := fun D σ H => ∃ G, Ext F.G0 F.H0.out G H ∧ Slots K F.H0 G H σ ρ ∧ ∀ ds p vs G2 H2, S ds → Ext F.G0 F.H0.out G2 H2 → F.H0.out p = none → G2 p = none → H2 p = some (.lst vs) → DpAll K G2 vs ds → D.rt (.ref p) H2
theorem ds_retL {X : Cx} {F : Fr0} {ρ : Env} {e : Expr} {ds : List D} {S : List D → Prop} {pos : Pos} {rest : List Stmt} (he : DL X F.H0 ρ e ds) (h : S ds) : PSs X (.Return (some e) pos :: rest) (tSL X.K F ρ S) :=
  (pss_cons (ps_ret he) pss_never).imp fun D σ H ⟨G, x, sl, q⟩ => ⟨G, x.gh, sl, fun p vs G1 H1 y n n1 hq r => q ds p vs G1 H1 h (x.trans y) (x.h.back n) n1 hq r⟩
section
variable {P : Program} {w : World} {K : PySem.W.Frag} {mg : Str → Option Value} {base : Heap} {α β : Type} {th : β → Thg} {enc : α → List D} {pre : β → α → Prop} {res : β → α → List D} {m qual : Str} {st : Stmt} {N ps : List Str} {k : Nat} {C : Addr}
theorem MetAt.okRL (h : MetAt K C m qual st ps) (S : FnScope N ps (defScope st)) (hlen : ∀ a, (enc a).length + 1 = ps.length)
    (body : ∀ b a, pre b a → ∀ (f : Addr) (cdv : Value) (A : Around) (outer : List PySem.Env) (s : Shared) (H G : Hp) (E : XK), Room k (A.deeper (envOfC qual (defScope st) s.heap.objs.size f cdv)) →
      PSs (cxOf (L2N.CX P w) P w K mg base N qual (defScope st) f cdv A outer s H E) (defBody st) (tSL K ⟨.of H, G, E⟩ (startT N (th b).ro (enc a)) fun ds => ds = res b a)) : MetOk P w K mg base (k + 1) C m ps (spRL K mg th enc pre res) := by
  obtain ⟨f, fd, hm, F, hb⟩ := h
  refine ⟨f, fd, hm, hb, ?_⟩
  refine F.okN S (fun vs H Q E ⟨b, a, G, vr, hv, _, _, r, _⟩ => by rw [hv, List.length_cons, r.length]; exact hlen a) (fun cdv A outer s H vs Q E hr ⟨b, a, G, vr, hv, e, tok, r, hp, q1⟩ => ?_)
  subst hv
  exact ⟨_, body b a hp f cdv A outer s H G E hr, G, Ext.refl e, slots_startT (t := (th b).ro) N trivial e (roro tok) r, fun ds p vs G' H' hS x' hp0 g h r => q1 p vs G' H' x' hp0 g h (hS ▸ r)⟩
end
section
variable {P : Program} {w : World} {K : PySem.W.Frag} {mg : Str → Option Value} {base : Heap} {α β : Type} {th : β → Thg} {enc : α → List D} {pre : β → α → Prop} {ok : β → α → D → β → Prop} {er : β → α → Str → Prop} {qual : Str} {st : Stmt} {N ps : List Str} {k : Nat}
/-- a def (as __init__) that changes its first -/
theorem FnSok {x9 : Str} {f : Addr} {fd : FuncData} (F : Fun K x9 qual st f fd) {M9 : Addr → Prop} (hm : M9 f) (hb : Binds K fd ps []) (S : FnScope N ps (defScope st)) (hlen : ∀ a, (enc a).length + 1 = ps.length)
    (body : ∀ b a, pre b a → ∀ (f : Addr) (cdv : Value) (A : Around) (outer : List PySem.Env) (s : Shared) (H G : Hp) (E : XK), Room k (A.deeper (envOfC qual (defScope st) s.heap.objs.size f cdv)) →
      TakesE (cxOf (L2N.CX P w) P w K mg base N qual (defScope st) f cdv A outer s H E) ⟨.of (delT H (th b)), G, E⟩ → PassesOwn (model P w) (cxOf (L2N.CX P w) P w K mg base N qual (defScope st) f cdv A outer s H E).A (cxOf (L2N.CX P w) P w K mg base N qual (defScope st) f cdv A outer s H E).env (cxOf (L2N.CX P w) P w K mg base N qual (defScope st) f cdv A outer s H E).xe →
      DS (cxOf (L2N.CX P w) P w K mg base N qual (defScope st) f cdv A outer s H E) ⟨.of (delT H (th b)), G, E⟩ (startT N (th b) (enc a)) (defBody st) (endT th ok er b a)) : ∃ f fd, M9 f ∧ Binds K fd ps [] ∧ FnOk P w K mg base (L2N.CX P w) (k + 1) f fd ps (spS K mg th enc pre ok er) := by
  refine ⟨f, fd, hm, hb, ?_⟩
  refine F.okN S (fun vs H Q E ⟨b, a, G, vr, hv, _, _, r, _⟩ => by rw [hv, List.length_cons, r.length]; exact hlen a) (fun cdv A outer s H vs Q E hr ⟨b, a, G, vr, hv, e, tok, r, hp, q1, q2⟩ => ?_)
  subst hv
  have tk : TakesE (cxOf (L2N.CX P w) P w K mg base N qual (defScope st) f cdv A outer s H E) ⟨.of (delT H (th b)), G, E⟩ := L2N.takes_of rfl rfl rfl rfl
  have e0 : Ext G (delT H (th b)) G H := ⟨Ex.refl G, delT_ex, e, fun a o h n => (by rw [h] at n; cases n), fun _ _ h => h⟩
  have fin : ∀ {b' ρ' σ' G' H'}, (th b').w = true → ρ'[0]? = some (.thg (th b')) → Slots K (.of (delT H (th b))) G' H' σ' ρ' → (th b').Ok K noneH G' H' ∧ ∀ x, (th b').Has x → (th b).Has x ∨ H x = none := fun {b' ρ' σ' G' H'} hw h1 s' => by
    obtain ⟨_, t2⟩ := s'.thg.at_ 0 _ h1
    refine ⟨t2.out_to fun _ _ => rfl, fun x hx => ?_⟩
    have := t2.o0 hw hx
    by_cases z : (th b).Has x
    · exact .inl z
    · right
      have z2 : delT H (th b) x = none := this
      rwa [delT_out z] at z2
  refine ⟨_, body b a hp f cdv A outer s H G E hr tk (passes_of rfl), G, e0, slots_startT N trivial e (tok.out_to fun x hx => delT_in hx) r, fun ρ' σ' G' H' h x' _ s' => ?_, fun _ _ _ _ h => h.elim, fun _ _ _ _ h => h.elim, fun ρ' σ' d v G' H' h x' s' r' => ?_, fun n C' G' H' h hm x' ρ' σ' hx s' => ?_⟩
  · obtain ⟨b', h1, h2, h3, h4⟩ := h
    obtain ⟨t1, t2⟩ := fin h4 h2 s'
    exact q1 .none b' .non G' H' h1 x' t1 h3 t2 .non
  · obtain ⟨b', h1, h2, h3, h4⟩ := h
    obtain ⟨t1, t2⟩ := fin h4 h2 s'
    exact q1 d b' v G' H' h1 x' t1 h3 t2 r'
  · exact q2 n C' G' H' h hm x' ((s'.thg.at_ 0 _ hx).2.out_to fun _ _ => rfl)
end
section
variable {X : Cx} {H0 : Bs} {F : Fr0} {ρ : Env} {α β : Type} {th : β → Thg} {enc : α → List D} {pre : β → α → Prop} {res : β → α → Out} {resL : β → α → List D} {x m : Str} {ps : List Str} {k i : Nat} {C : Addr} {t : Thg} {e : Expr} {es : List Expr} {d : D} {p apos pos : Pos} {a : α} {b : β} {pl : Sem Bool}
/-- x.m(), a new list -/
theorem dl_meth0 (M : MetX X k C m ps (spRL X.K X.mg th enc pre resL)) (i : Nat) (h : ρ[i]? = some (.thg t)) (b : β) (a : α) (hro : t.ro = (th b).ro) (c : Cls X.K C) (hI : InsOf X.K C m t) (hr : Room k X.A) (hen : enc a = []) (hp : pre b a) (hN : X.N[i]? = some x := by rfl) (hv : Vis X.env.scope x := by first | exact Or.inl rfl | exact Or.inr (Or.inl rfl) | exact Or.inr (Or.inr rfl)) (hd : (x == ("__debug__" : Str)) = false := by decide) (hcd : (x == ("__classdict__" : Str)) = false := by decide)
    (ht : eval (.Call (.Attribute (.Name x p) m apos) [] [] pos) X.env = (do
      let ov ← eval (.Name x p) X.env
      standAt apos.atName
      let (f, first) ← holding [ov] (getMethod ov m pl)
      callWith pos f first (backTo pos (starEach [] X.env)) (backToKw pos (keywordEach [] X.env))) := by rfl) : DL X H0 ρ (.Call (.Attribute (.Name x p) m apos) [] [] pos) (resL b a) := by
  obtain ⟨f, fd, hm, hb, Fk⟩ := M
  refine (pe_meth0 (pl := pl) (pv i hN hv hd hcd) c hm Fk hr hb .nil passLN ht).imp fun σ H Q ⟨G, ex, sl, q⟩ => ?_
  obtain ⟨h1, tok⟩ := sl.thg.at_ i t h
  obtain ⟨dx, fs, h2, h3⟩ := hI _ _ _ tok
  have hroot : t.root = (th b).root := ro_root hro
  exact ⟨.ref t.root, h1, t.root, dx, fs, rfl, h2, h3, b, a, G, [], by rw [hroot]; rfl, ex, hro ▸ Thg.ro_ok tok, by rw [hen]; exact .nil, hp, fun p' ws G2 H2 y n n1 hh r => q p' ws G2 H2 y n n1 hh r⟩
/-- x.m(), which reads x and may raise, as a reading -/
theorem pe_methR0 (M : MetX X k C m ps (spR X.K X.mg th enc pre res)) (i : Nat) (h : ρ[i]? = some (.thg t)) (b : β) (a : α) (hro : t.ro = (th b).ro) (c : Cls X.K C) (hI : InsOf X.K C m t) (hr : Room k X.A) (hen : enc a = []) (hp : pre b a) (tk : TakesE X F) (hN : X.N[i]? = some x := by rfl) (hv : Vis X.env.scope x := by first | exact Or.inl rfl | exact Or.inr (Or.inl rfl) | exact Or.inr (Or.inr rfl)) (hd : (x == ("__debug__" : Str)) = false := by decide) (hcd : (x == ("__classdict__" : Str)) = false := by decide)
    (ht : eval (.Call (.Attribute (.Name x p) m apos) [] [] pos) X.env = (do
      let ov ← eval (.Name x p) X.env
      standAt apos.atName
      let (f, first) ← holding [ov] (getMethod ov m pl)
      callWith pos f first (backTo pos (starEach [] X.env)) (backToKw pos (keywordEach [] X.env))) := by rfl) :
    PE X (.Call (.Attribute (.Name x p) m apos) [] [] pos) (fun σ H Q => ∃ G, Ex G H ∧ Slots X.K F.H0 G H σ ρ ∧ (∀ d, res b a = .ok d → ∀ v G2 H2, Ext G H G2 H2 → Dp X.K G2 v d → Q v H2) ∧ (∀ n, res b a = .err n → ∀ C G2 H2, X.mg n = some (.ref C) → Ext G H G2 H2 → F.E (.ref C) none H2)) := by
  obtain ⟨f, fd, hm, hb, Fk⟩ := M
  refine (pe_meth0 (E := F.E) (pl := pl) (pv i hN hv hd hcd) c hm Fk hr hb .nil (L2N.passes_call tk fun _ _ _ _ h => h) ht).imp fun σ H Q ⟨G, ex, sl, q1, q2⟩ => ?_
  obtain ⟨h1, tok⟩ := sl.thg.at_ i t h
  obtain ⟨dx, fs, h2, h3⟩ := hI _ _ _ tok
  have hroot : t.root = (th b).root := ro_root hro
  exact ⟨.ref t.root, h1, t.root, dx, fs, rfl, h2, h3, b, a, G, [], by rw [hroot]; rfl, ex, hro ▸ Thg.ro_ok tok, by rw [hen]; exact .nil, hp, fun d' v G2 H2 e1 y r => q1 d' e1 v G2 H2 y r, fun n C' G2 H2 e1 hm y => q2 n e1 C' G2 H2 hm y⟩
end
/-! ### len(x), x an instance with __len__ -/
def rLenI (C : Addr) (sp : Sp) : List V → Hp → VK → Prop := fun xs H Q => ∃ a dx fs, xs = [V.ref a] ∧ H a = some (.ins C dx fs) ∧ sp [.ref a] H (fun v H' => ∃ n : Nat, n ≤ 1000000 ∧ v = .int n ∧ Q (.int n) H') E0
theorem cr_lenI {X : Cx} {C f : Addr} {fd : FuncData} {ps : List Str} {sp : Sp} {k : Nat} (hm : Meth X.K C "__len__" f) (F : FnOk X.prog X.w X.K X.mg X.base (L2N.CX X.prog X.w) k f fd ps sp) (hb : Binds X.K fd ps []) (hr : Room (k + 1) X.A) : CallR X (.builtin "len") (rLenI C sp) := by
  intro pins s σ H xs us Q I r h
  obtain ⟨a, dx, fs, rfl, ha, hsp⟩ := h
  obtain ⟨u, rfl, ru⟩ := vals1 r
  obtain rfl : u = Value.ref a := ru
  obtain ⟨mA, J, _⟩ := ins_get I.hok ha
  obtain ⟨od, J, _⟩ := J.look
  refine Calls.call_function_entry kind_len plain_len entry_len (args_len1 _) ?_
  unfold Builtin.«len»
  refine wpAny_bind (m := oneArg "len" _) (wpAny_pure ?_)
  refine wpAny_bind (m := callSpecial? (.ref a) (Str.ofString "__len__")) (PySem.W.special_fn (args := []) I.kIn J hm.at_ (beq_iff_eq.mp hm.fn) ?_)
  have e0 : Env0 X.prog X.w X.K X.mg X.base X.A.in1 X.stack s H := by
    have e := I.env0
    exact ⟨e.frames, e.mod, e.bs, e.bsz, e.funs, e.frf, e.hok, e.bare⟩
  have hl := F.len _ _ _ _ hsp
  have r2 : Vals [V.ref a] [Value.ref a] := .cons rfl .nil
  refine wpAny_call (codeAny_mono (F.run X.A.in1 X.stack s H ⟨[.ref a], []⟩ [.ref a] [.ref a] (fun v H' => ∃ n : Nat, n ≤ 1000000 ∧ v = .int n ∧ Q (.int n) H') E0 hr.in1 e0 (by
    have := hb s [.ref a] I.kIn (by simpa using hl)
    simpa using this) r2 hsp) fun r s' hq => ?_)
  cases r with
  | error e => exact passLN pins σ H s e s' I hq
  | ok fl =>
    cases fl with
    | next => exact False.elim hq
    | brk => exact False.elim hq
    | cont => exact False.elim hq
    | ret u =>
      obtain ⟨v, H', I', rv, n, hn, rfl, q⟩ := I.after hq
      obtain ⟨t, rfl⟩ := rv
      refine wpAny_bind (wpAny_holding (wpAny_pure ?_))
      refine wpAny_bind (wpAny_letGo ?_)
      show wpAny _ _ (if ((n : Nat) : Int) < 0 then _ else _) _ _ _
      rw [if_neg (by omega)]
      show wpAny _ _ (if ((n : Nat) : Int) ≥ 2 ^ 63 then _ else _) _ _ _
      rw [if_neg (by omega)]
      exact wpAny_bind (wpAny_mkInt (wpAny_pure ⟨_, rfl, .int n, H', I'.tok _, ⟨_, rfl⟩, q⟩))
theorem lenM {X : Cx} {H0 : Bs} {ρ : Env} {α β : Type} {th : β → Thg} {enc : α → List D} {pre : β → α → Prop} {res : β → α → Out} {x : Str} {ps : List Str} {k : Nat} {C : Addr} {t : Thg} {n : Nat} {p p1 pos : Pos} (bt : Bt X.mg) (M : MetX X k C "__len__" ps (spR X.K X.mg th enc pre res)) (i : Nat) (h : ρ[i]? = some (.thg t)) (b : β) (a : α) (hro : t.ro = (th b).ro) (hI : InsOf X.K C "__len__" t) (hr : Room (k + 1) X.A) (hen : enc a = []) (hp : pre b a) (ho : res b a = .ok (.int (n : Int))) (hn : n ≤ 1000000) (hN : X.N[i]? = some x := by rfl) (hv : Vis X.env.scope x := by first | exact Or.inl rfl | exact Or.inr (Or.inl rfl) | exact Or.inr (Or.inr rfl)) (hd : (x == ("__debug__" : Str)) = false := by decide) (hcd : (x == ("__classdict__" : Str)) = false := by decide)
    (hg : Gl X "len" := by rfl) (he : starEach (.Name x p :: []) X.env = (false, eval (.Name x p) X.env) :: starEach [] X.env := by rfl) (hpl : (backTo pos (starEach [] X.env)).any (·.1) = false := by rfl) : DE X H0 ρ (.Call (.Name "len" p1) [.Name x p] [] pos) (.int (n : Int)) := by
  obtain ⟨f, fd, hm, hb, Fk⟩ := M
  refine (pe_callB (cr_lenI hm Fk hb hr) hg (bt.at _) (by decide +kernel) (pa_one (pv i hN hv hd hcd) he) (by decide) (by decide) he hpl).imp fun σ H Q ⟨G, ex, sl, q⟩ => ?_
  obtain ⟨h1, tok⟩ := sl.thg.at_ i t h
  obtain ⟨dx, fs, h2, h3⟩ := hI _ _ _ tok
  have hroot : t.root = (th b).root := ro_root hro
  refine ⟨.ref t.root, h1, t.root, dx, fs, rfl, h2, b, a, G, [], by rw [hroot], ex, hro ▸ Thg.ro_ok tok, by rw [hen]; exact .nil, hp, fun d' v G2 H2 e1 y r => ?_, fun n C' G2 H2 e1 => by rw [ho] at e1; cases e1⟩
  rw [ho] at e1; cases e1
  obtain rfl := dp_int r
  exact ⟨n, hn, rfl, q _ G2 H2 y (.int _)⟩
/-! ### the place of a number -/
theorem idx_lt {ns : List Int} {m : Int} : ∀ {i : Nat} {z : Int}, i < ns.idxOf m → ns[i]? = some z → z ≠ m := by
  induction ns with
  | nil => intro i z h; simp at h
  | cons a r ih =>
    intro i z h hz e
    rw [List.idxOf_cons] at h
    by_cases q : a == m
    · rw [q] at h; simp at h
    · rw [Bool.not_eq_true] at q
      rw [q] at h
      cases i with
      | zero =>
        simp at hz; subst hz; subst e; simp at q
      | succ i =>
        simp at hz h
        exact ih h hz e
theorem de_indexI {X : Cx} {H0 : Bs} {ρ : Env} {a e : Expr} {ns : List Int} {m : Int} {pos p2 : Pos} (hmem : m ∈ ns) (ho : DR X H0 ρ a (ns.map .int)) (he : DE X H0 ρ e (.int m)) (hb : attributeBase a "index" X.env (eval a X.env) = eval a X.env := by rfl)
    (hfew : ((backTo pos (starEach (e :: []) X.env)).all (fun x => !x.1) && (backToKw pos (keywordEach [] X.env)).all (fun x => x.1.isSome) && decide ((e :: []).length + ([] : List Keyword).length + (if ([] : List Keyword).isEmpty then 0 else 1) < 30)) = true := by rfl) (hl : (p2.endLine == pos.line) = true := by rfl)
    (he1 : starEach (e :: []) X.env = (false, eval e X.env) :: starEach [] X.env := by rfl) (hpl : (backTo pos (starEach [] X.env)).any (·.1) = false := by rfl) :
    DE X H0 ρ (.Call (.Attribute a "index" p2) [e] [] pos) (.int (ns.idxOf m : Nat)) :=
  (pe_bm PySem.F.plainAttrs_list PySem.F.slot_list_index PySem.F.type_list_index mt_index ho (pa_one he he1) hb hfew hl he1 hpl).imp fun σ H Q ⟨G, x, sl, q⟩ => ⟨G, x, sl, fun p vs G1 H1 y h r => by
    refine ⟨.inl ⟨rfl, vs, h⟩, G1, y.gh, sl.up y, fun v G2 H2 z rv => ?_⟩
    have hv := dp_int rv
    subst hv
    have hvs := dpAll_ints r
    subst hvs
    refine ⟨p, ns.map .int, .int m, ns.idxOf m, .int m, rfl, rfl, z.h.seqL h, rfl, List.all_eq_true.mpr fun v hv => ?_, ?_, ?_, fun j z' hm hz => ?_, q _ G2 H2 (y.trans z) (.int _)⟩
    · obtain ⟨b, _, rfl⟩ := List.mem_map.mp hv
      rfl
    · rw [List.getElem?_map, List.getElem?_eq_getElem (List.idxOf_lt_length_of_mem hmem), List.getElem_idxOf]; rfl
    · simp [eqV]
    · rw [List.getElem?_map] at hz
      cases hq : ns[j]? with
      | none => rw [hq] at hz; cases hz
      | some y' =>
        rw [hq] at hz; cases hz
        have := idx_lt hm hq
        simp [eqV, this]⟩
end DL
/-! DL35: what is the same is not unlike. -/
namespace DL
open PySem PySem.Spec PyProof.Rows L2
section
variable {X : Cx} {F : Fr0} {E : Fam} {H0 : Bs} {ρ : Env} {a b : Expr} {d d' : D} {xs : List D} {pos : Pos} {k : Nat}
theorem neF (hr : Room k X.A) (ha : DE X H0 ρ a d) (hb : DE X H0 ρ b d) (hp : d.plain = true) (hd : d.depth ≤ 50) (hm : behindInMarks .NotEq b = false := by first | exact nomark _ | rfl) : DT X H0 ρ (.Compare a [.NotEq] [b] pos) false :=
  dt_to (dt_cmp (op_neP hr.units) (od_neP hp hp (.inl hd)) ha hb hm) (by rw [PySem.SeqAt.eqv_refl_plain d hp]; rfl)
theorem neFL (hr : Room k X.A) (ha : DR X H0 ρ a xs) (hb : DE X H0 ρ b (.list xs)) (hp : PyData.plainAll xs = true) (hd : PyData.depthAll xs ≤ 49) (hm : behindInMarks .NotEq b = false := by first | exact nomark _ | rfl) : DT X H0 ρ (.Compare a [.NotEq] [b] pos) false :=
  dt_to (dt_cmpL (op_neP hr.units) (od_neL (db := .list xs) hp hp (.inl (by simp only [PyData.depth]; omega))) ha hb hm) (by rw [PySem.SeqAt.eqv_refl_plain (.list xs) hp]; rfl)
theorem dxneF (hr : Room k X.A) (ha : DX X F E a (fun z => z = d)) (hb : ∀ x k, DE X F.H0 (E x k) b d) (hp : d.plain = true) (hd : d.depth ≤ 50) (hm : behindInMarks .NotEq b = false := by first | exact nomark _ | rfl) : DXt X F E (.Compare a [.NotEq] [b] pos) (fun z => z = false) :=
  dxt_cmp (Sa := fun z => z = d) (Sb := fun z => z = d) (op_neP hr.units) ha (dx_of hb rfl) (fun da db h1 h2 => ⟨!PyData.eqv da db, by rw [h1, h2, PySem.SeqAt.eqv_refl_plain d hp]; rfl, by subst h1; subst h2; exact od_neP hp hp (.inl hd)⟩) hm
end
theorem MetOk.mono {P : Program} {w : World} {K : PySem.W.Frag} {mg : Str → Option Value} {base : Heap} {j k : Nat} {C : Addr} {m : Str} {ps : List Str} {sp : Sp} (h : MetOk P w K mg base j C m ps sp) (hj : j ≤ k) : MetOk P w K mg base k C m ps sp := by
  obtain ⟨f, fd, h1, h2, h3⟩ := h
  exact ⟨f, fd, h1, h2, h3.mono hj⟩
end DL
/-! DL36: dicts keyed by texts: made by a comprehension, read. -/
namespace DL
open PySem PySem.Spec PyProof.Rows L2
/-- a dict keyed by texts, its values data -/
def dkC (a : Addr) (kvs : List (Str × D)) : Cell := ⟨a, fun K G o => ∃ es : List (Key × V), o = .dK es ∧ es.map (·.1) = kvs.map (fun p => Sum.inr p.1) ∧ DpAll K G (es.map (·.2)) (kvs.map (·.2)), fun _ _ _ _ e h => by
  obtain ⟨es, h1, h2, h3⟩ := h
  exact ⟨es, h1, h2, DpAll.up h3 e⟩, fun _ _ _ ⟨_, h, _⟩ => by rw [h]; trivial⟩
def dkT (a : Addr) (kvs : List (Str × D)) : Thg := ⟨a, [dkC a kvs], true⟩
theorem val_dk {K : PySem.W.Frag} {G : Hp} : ∀ {es : List (Key × V)} {kvs : List (Str × D)} {z : Str} {d : D}, es.map (·.1) = kvs.map (fun p => Sum.inr p.1) → DpAll K G (es.map (·.2)) (kvs.map (·.2)) → kvs.lookup z = some d → ∃ v, valV es (Sum.inr z) = some v ∧ Dp K G v d
  | [], [], _, _, _, _, h => by cases h
  | [], _ :: _, _, _, e, _, _ => by cases e
  | _ :: _, [], _, _, e, _, _ => by cases e
  | (k, v) :: es, (y, x) :: kvs, z, d, e, r, h => by
    rw [List.map_cons, List.map_cons] at e
    injection e with e1 e2
    have e1 : k = Sum.inr y := e1
    rw [List.map_cons, List.map_cons] at r
    obtain ⟨v', r', ev, r1, r2⟩ := r.inv_cons
    injection ev with ev1 ev2
    subst ev1 ev2
    rw [List.lookup_cons] at h
    cases q : z == y with
    | true =>
      rw [q] at h
      cases h
      have : z = y := by simpa using q
      subst this
      exact ⟨v, valV_pos e1, r1⟩
    | false =>
      rw [q] at h
      obtain ⟨u, hu, ru⟩ := val_dk e2 r2 h
      refine ⟨u, ?_, ru⟩
      have ne : ¬ k = Sum.inr z := fun c => by
        rw [e1] at c
        injection c with c
        rw [c] at q; simp at q
      simpa [valV, List.find?_cons, ne] using hu
section
variable {X : Cx} {H0 : Bs} {F : Fr0} {ρ : Env} {N : DEnd} {e kx vx tg iter : Expr} {x y z : Str} {d : D} {kvs : List (Str × D)} {a : Addr} {pos p1 spos : Pos} {k : Nat} {scope : Scope} {own : List (Str × Nat)} {α : Type} {xs : List α} {enc : α → D} {rest : List Stmt}
/-- x[e], x a dict -/
theorem de_dk (i : Nat) (hr : Room k X.A) (h : ρ[i]? = some (.thg (dkT a kvs))) (hl : kvs.lookup z = some d) (he : DE X H0 ρ e (.str z)) (hs : NoSl e := by exact fun _ _ => rfl) (hN : X.N[i]? = some x := by rfl) (hv : Vis X.env.scope x := by first | exact Or.inl rfl | exact Or.inr (Or.inl rfl) | exact Or.inr (Or.inr rfl)) (hd : (x == ("__debug__" : Str)) = false := by decide)
    (hcd : (x == ("__classdict__" : Str)) = false := by decide) : DE X H0 ρ (.Subscript (.Name x p1) e pos) d :=
  (pe_dget (by have := hr.un; omega) (pv i hN hv hd hcd) he hs).imp fun σ H Q ⟨G, ex, sl, q⟩ => by
    obtain ⟨hroot, tok⟩ := sl.thg.at_ i _ h
    refine ⟨.ref a, hroot, G, ex, sl, fun v G1 H1 y1 r1 => ?_⟩
    obtain rfl := dp_str r1
    obtain ⟨_, _, o, h1, es, rfl, h2, h3⟩ := ((sl.up y1).thg.at_ i _ h).2.ok _ List.mem_cons_self
    obtain ⟨u, hu, ru⟩ := val_dk h2 h3 hl
    exact ⟨a, u, rfl, .inl ⟨es, Sum.inr z, .inl h1, rfl, hu.symm⟩, q u G1 H1 y1 ru⟩
/-- what a turn is asked -/
def DcTurn (X : Cx) (H0 : Bs) (ρ : Env) (tg : Expr) (kx vx : Expr) (scope : Scope) (vs : List Nat) (d : D) (z : Str) (r : D) : Prop :=
  ∃ ρ' js, (∀ j ∈ js, j ∈ vs) ∧ ∀ (s : Shared) (H : Hp) (C : Addr) (cl : List (Str × Addr)) (fp : List Addr), DG (X.blk s H scope (compEnvC scope cl C X.env) fp) H0 (wipeE ρ vs) tg d ρ' js ∧
    DE (X.blk s H scope (compEnvC scope cl C X.env) fp) H0 ρ' kx (.str z) ∧ DE (X.blk s H scope (compEnvC scope cl C X.env) fp) H0 ρ' vx r
theorem putK_new {es : List (Key × V)} {k : Key} {v : V} (h : k ∉ es.map (·.1)) : putK es k v = es ++ [(k, v)] := by
  unfold putK
  rw [if_neg]
  simp only [List.any_eq_true, decide_eq_true_eq, not_exists, not_and]
  exact fun p hp e => h (List.mem_map.mpr ⟨p, hp, e⟩)
theorem dc_it {J : It} {n : Nat} {Gd : Hp → Prop} {Y : Nat → Hp → V → Hp → Prop} (w : L2.Walk J n Gd Y) {g : TG} {tt : TT} {tk tv : TE} {vs : List Nat} {σ : L2.St} {H1 : Hp} {D : Addr} {Qd : Hp → Prop} (Pv : Nat → Hp → Prop) (h0 : Pv 0 (upd H1 D (.dK []))) (hG : ∀ i H, i ≤ n → Pv i H → Gd H)
    (hs : ∀ i x H H', i < n → Pv i H → Y i H x H' → g x (wipe σ vs) H' fun σ2 H2 => wipe σ2 vs = wipe σ vs ∧ tt σ2 H2 fun b H3 =>
      if b = true then tk σ2 H3 fun y H4 => tv σ2 H4 fun z H5 => ∃ kvs k, y = kV k ∧ H5 D = some (.dK kvs) ∧ kvs.length < sizeLine ∧ Pv (i + 1) (upd H5 D (.dK (putK kvs k z))) else Pv (i + 1) H3) (hd : ∀ H, Pv n H → Qd H) :
    ∃ W : Nat → Nat → Hp → Prop, (∃ m, W 0 m (upd H1 D (.dK []))) ∧ ∀ i m H, W i m H →
      (J.stop i H ∧ Qd H) ∨ (J.go i H ∧ ∃ Nx : Hp → Prop, (∀ H', Nx H' → ∃ m', m' < m ∧ W (i + 1) m' H') ∧ ∀ x H', J.yld i H x H' → g x (wipe σ vs) H' fun σ2 H2 => wipe σ2 vs = wipe σ vs ∧ tt σ2 H2 fun b H3 =>
        if b = true then tk σ2 H3 fun y H4 => tv σ2 H4 fun z H5 => ∃ kvs k, y = kV k ∧ H5 D = some (.dK kvs) ∧ kvs.length < sizeLine ∧ Nx (upd H5 D (.dK (putK kvs k z))) else Nx H3) := by
  refine ⟨fun i m H => m = n - i ∧ i ≤ n ∧ Pv i H, ⟨n, by simp, Nat.zero_le _, h0⟩, ?_⟩
  rintro i m H ⟨rfl, hi, p⟩
  have q := hG i H hi p
  by_cases hlt : i < n
  · refine .inr ⟨w.goes i H hlt q, Pv (i + 1), fun H' p' => ⟨n - (i + 1), by omega, rfl, hlt, p'⟩, fun x H' y => hs i x H H' hlt p (w.yields i H x H' hlt q y)⟩
  · have e : i = n := by omega
    subst e
    exact .inl ⟨w.stops H q, hd H p⟩
def dcK (X : Cx) (scope : Scope) (kx : Expr) : TE := lcE X scope kx
/-- what the new dict is -/
abbrev tNewD (K : PySem.W.Frag) (F : Fr0) (ρ : Env) (kvs : List (Str × D)) : TE := tNewT K F ρ fun t => ∃ a, t = dkT a kvs
theorem dc_reading (kf : α → Str) (g : α → D) (hz : xs.length ≤ 100000) (hnd : (xs.map kf).Nodup) {vs : List Nat} (hb : ∀ x ∈ xs, DcTurn X F.H0 ρ tg kx vx scope vs (enc x) (kf x) (g x)) :
    ∀ σ H Q, tNewD X.K F ρ (xs.map fun x => (kf x, g x)) σ H Q → tDc (tI X.K F.H0 ρ (xs.map enc)) (lcG X scope tg) (lcT X scope []) (lcE X scope kx) (lcE X scope vx) vs σ H Q := fun σ H Q ⟨G, e0, sl, q⟩ => by
  refine ⟨G, e0.gh, sl, fun J G1 H1 y1 ⟨Y, w, hy⟩ Dl hD => ?_⟩
  have g1D : G1 Dl = none := y1.gh.back hD
  refine dc_it (g := lcG X scope tg) (tt := lcT X scope []) (tk := lcE X scope kx) (tv := lcE X scope vx) (vs := vs) (σ := σ) (Qd := fun H' => Q (.ref Dl) H') w (fun i H' => ∃ (G' : Hp) (es : List (Key × V)), Ext G1 H1 G' H' ∧ G' Dl = none ∧ H' Dl = some (.dK es) ∧ es.map (·.1) = (xs.take i).map (fun x => Sum.inr (kf x)) ∧ DpAll X.K G' (es.map (·.2)) ((xs.take i).map g))
    ⟨G1, [], Ext.heap y1.gh (Ex.new hD), g1D, upd_same, rfl, by simpa using DpAll.nil⟩ (fun i H' _ ⟨G', es, x, _⟩ => x.g.trans x.gh) (fun i v H' H'' hi ⟨G', es, x, gn, ha, hk, ra⟩ hyv => ?_) (fun H' ⟨G', es, x, gn, ha, hk, ra⟩ => ?_)
  · rw [List.length_map] at hi
    obtain ⟨G2, d, x2, hd, rd⟩ := hy i H' v H'' G' hyv x.g x.gh
    have hx : xs[i]? = some xs[i] := List.getElem?_eq_getElem hi
    rw [List.getElem?_map, hx] at hd
    obtain rfl := Option.some.inj hd
    obtain ⟨ρ', js, hjs, hb'⟩ := hb xs[i] (List.getElem_mem hi)
    have x12 : Ext G1 H1 G2 H'' := x.trans x2
    refine ⟨tG X.K F.H0 (wipeE ρ vs) (enc xs[i]) ρ' js, fun s H C cl fp => (hb' s H C cl fp).1, G2, x2.gh, slots_wipe ((sl.up y1).up x12) vs, rd, fun σ' sl' hw => ⟨(hw vs hjs).trans (wipe_wipe vs σ), ?_⟩⟩
    refine ⟨tT X.K F.H0 ρ' true, fun s H C cl fp => dts_nil, G2, x2.gh, sl', fun G3 H3 x3 => ?_⟩
    have x13 := x12.trans x3
    have a3 : H3 Dl = some (.dK es) := x3.h _ _ (x2.h _ _ ha)
    have n3 : G3 Dl = none := x3.keepN (x2.keepN gn ha) (x2.h _ _ ha)
    have r3 := (ra.up x2.g).up x3.g
    show (if true = true then _ else _)
    rw [if_pos rfl]
    refine ⟨tD X.K F.H0 ρ' (.str (kf xs[i])), fun s H C cl fp => (hb' s H C cl fp).2.1, G3, x3.gh, sl'.up x3, fun u G4 H4 x4 r4 => ?_⟩
    obtain rfl := dp_str r4
    refine ⟨tD X.K F.H0 ρ' (g xs[i]), fun s H C cl fp => (hb' s H C cl fp).2.2, G4, x4.gh, (sl'.up x3).up x4, fun u G5 H5 x5 r5 => ⟨es, Sum.inr (kf xs[i]), rfl, x5.h _ _ (x4.h _ _ a3), ?_, G5, es ++ [(Sum.inr (kf xs[i]), u)], ?_, x5.keepN (x4.keepN n3 a3) (x4.h _ _ a3), ?_, ?_, ?_⟩⟩
    · have hl : es.length = (xs.take i).length := by
        have := congrArg List.length hk
        simpa using this
      rw [hl, List.length_take]
      exact Nat.lt_of_le_of_lt (Nat.le_trans (Nat.min_le_right _ _) hz) (by decide)
    · have x15 := (x13.trans x4).trans x5
      exact ⟨x15.g, x15.h.mut hD, x15.gh.mut (x5.keepN (x4.keepN n3 a3) (x4.h _ _ a3)), x15.nw, x15.nt⟩
    · rw [upd_same, putK_new]
      rw [hk]
      intro hm
      obtain ⟨x', hx', e'⟩ := List.mem_map.mp hm
      injection e' with e'
      obtain ⟨j, hj, ej⟩ := List.mem_iff_getElem.mp hx'
      rw [List.length_take] at hj
      have hji : j < i := by omega
      rw [List.getElem_take] at ej
      have h1 : (xs.map kf)[j]? = some (kf xs[i]) := by rw [List.getElem?_map, List.getElem?_eq_getElem (by omega), ej]; exact congrArg some e'
      have h2 : (xs.map kf)[i]? = some (kf xs[i]) := by rw [List.getElem?_map, hx]; rfl
      have := (List.getElem?_inj (by rw [List.length_map]; omega) hnd).mp (h1.trans h2.symm)
      omega
    · rw [List.take_add_one, hx, List.map_append, List.map_append, hk]; rfl
    · rw [List.take_add_one, hx, List.map_append, List.map_append]
      exact ((r3.up x4.g).up x5.g).app (DpAll.one r5)
  · rw [List.length_map, List.take_length] at ra hk
    refine q (dkT Dl (xs.map fun x => (kf x, g x))) G' H' ⟨Dl, rfl⟩ rfl (y1.trans x) (fun z ⟨c, hc, ez⟩ => ?_) ⟨fun c hc => ?_⟩
    · rcases List.mem_cons.mp hc with rfl | hc
      · rw [← ez]; exact y1.h.back hD
      · cases hc
    · rcases List.mem_cons.mp hc with rfl | hc
      · exact ⟨fun _ => e0.h.back (y1.h.back hD), gn, _, ha, es, rfl, by rw [hk, List.map_map]; rfl, by rw [List.map_map]; exact ra⟩
      · cases hc
/-- {k: v for ..} -/
theorem pe_newD (kf : α → Str) (g : α → D) (hc : X.calm = true) (hN : X.N.Nodup) (hi : DI X F.H0 ρ tg iter (xs.map enc)) (ok : BlkOk X.N X.env.scope scope own) (hz : xs.length ≤ 100000) (hnd : (xs.map kf).Nodup) (hb : ∀ x ∈ xs, DcTurn X F.H0 ρ tg kx vx scope (own.map (·.2)) (enc x) (kf x) (g x))
    (hs : ∀ x, foldedSetIterable iter X.env x = pure x := by intro _; rfl) : PE X (.DictComp kx vx [⟨tg, iter, [], 0⟩] scope pos) (tNewD X.K F ρ (xs.map fun x => (kf x, g x))) :=
  (pe_dc (own := own) (g := lcG X scope tg) (tt := lcT X scope []) (tk := lcE X scope kx) (tv := lcE X scope vx) hc hN hi ok
    (fun s H C cl fp => ⟨fun pins s' σ H' v u Q I r ⟨t, h, q⟩ => (h s H C cl fp).run pins s' σ H' v u Q I r q⟩)
    (fun s H C cl fp => ⟨fun pins s' σ H' Q I ⟨t, h, q⟩ => (h s H C cl fp).run pins s' σ H' Q I q⟩)
    (fun s H C cl fp => ⟨fun pins s' σ H' Q I ⟨t, h, q⟩ => (h s H C cl fp).run pins s' σ H' Q I q⟩)
    (fun s H C cl fp => ⟨fun pins s' σ H' Q I ⟨t, h, q⟩ => (h s H C cl fp).run pins s' σ H' Q I q⟩) hs).imp fun σ H Q hq => dc_reading kf g hz hnd hb σ H Q hq
theorem ps_setDc {i : Nat} {y : Str} {py : Pos} {ifs : List Expr} {wi : TI} {g : TG} {tt : TT} {tk tv : TE} (hc : X.calm = true) (hN : X.N.Nodup) (hy : X.N[i]? = some y) (hyl : X.env.scope.names.lookup y = some .local)
    (hsw : swapsWith (.DictComp kx vx [⟨tg, iter, ifs, 0⟩] scope pos) (some (.Name y py)) spos.line X.env = pure true) (hi : PI X tg iter wi) (ok : BlkOk X.N X.env.scope scope own)
    (hg : ∀ (s : Shared) (H : Hp) (C : Addr) (cl : List (Str × Addr)) (fp : List Addr), PG (X.blk s H scope (compEnvC scope cl C X.env) fp) tg g) (ht : ∀ (s : Shared) (H : Hp) (C : Addr) (cl : List (Str × Addr)) (fp : List Addr), PTs (X.blk s H scope (compEnvC scope cl C X.env) fp) ifs tt)
    (hk : ∀ (s : Shared) (H : Hp) (C : Addr) (cl : List (Str × Addr)) (fp : List Addr), PE (X.blk s H scope (compEnvC scope cl C X.env) fp) kx tk)
    (he : ∀ (s : Shared) (H : Hp) (C : Addr) (cl : List (Str × Addr)) (fp : List Addr), PE (X.blk s H scope (compEnvC scope cl C X.env) fp) vx tv) (hs : ∀ x, foldedSetIterable iter X.env x = pure x := by intro _; rfl) :
    PS X (.Assign [.Name y py] (.DictComp kx vx [⟨tg, iter, ifs, 0⟩] scope pos) spos) (tAsg (tDc wi g tt tk tv (own.map (·.2))) (gName i)) := by
  refine ⟨fun pins s σ H D I h => ?_⟩
  rw [exec_Assign_Name_used _ _ _ _ hsw]
  refine wpAny_bind (wpAny_standAt (wpAny_bind ?_))
  show wpAny _ X.A (do let _ ← comprehension (.DictComp kx vx [⟨tg, iter, ifs, 0⟩] scope pos) scope X.env (firstIterPos [⟨tg, iter, ifs, 0⟩] pos) newDict false (eval iter X.env) (some (assign (.Name y py) X.env))) _ _ s
  have h : tDc wi g tt tk tv (own.map (·.2)) σ H (fun x H1 => gName i x σ H1 D.nx) := h
  refine wpAny_bind (thn (dc_core (Qf := fun _ s' => SP X pins D .next s') hc hN I hi ok hg ht hk he hs h fun L C s' m H' I' q hn f => ?_) fun _ s' hq => wpAny_pure (wpAny_pure hq))
  show wpAny _ _ (assign (.Name y py) X.env (.ref L)) _ _ _
  refine wpAny_assign_Name (store_ok2 (v := V.ref L) I' hN hy (.inl hyl) rfl (fun s2 I2 ⟨a, sb, ha⟩ => ?_) (.inr hyl))
  obtain ⟨f0, f1, f2, f3, f4, f5⟩ := f
  have haC : C ≠ a := by
    rcases ha with z | z
    · rw [z]; exact f1
    · exact fun e => f4 y a z e.symm
  refine ⟨m, hn.sameBut sb haC, fun h3 sb3 => ?_⟩
  exact ⟨_, H', I2.turned (t' := s2.toks) (fun b o hb e => (sb3.2 b hb).trans e) f0 f1 f3 f4 f5, q⟩
/-- y = {k: v for ..} on one line, y a local -/
theorem ds_setDc {i : Nat} {y : Str} {py : Pos} (kf : α → Str) (g : α → D) (hc : X.calm = true) (hN : X.N.Nodup) (hi : DI X F.H0 ρ tg iter (xs.map enc)) (ok : BlkOk X.N X.env.scope scope own) (hz : xs.length ≤ 100000) (hnd : (xs.map kf).Nodup) (hb : ∀ x ∈ xs, DcTurn X F.H0 ρ tg kx vx scope (own.map (·.2)) (enc x) (kf x) (g x))
    (hr : ∀ a, DS X F (ρ.set i (.thg (dkT a (xs.map fun x => (kf x, g x))))) rest N) (hsw : swapsWith (.DictComp kx vx [⟨tg, iter, [], 0⟩] scope pos) (some (.Name y py)) spos.line X.env = pure true) (hy : X.N[i]? = some y := by rfl) (hyl : X.env.scope.names.lookup y = some .local := by rfl)
    (hs : ∀ x, foldedSetIterable iter X.env x = pure x := by intro _; rfl) : DS X F ρ (.Assign [.Name y py] (.DictComp kx vx [⟨tg, iter, [], 0⟩] scope pos) spos :: rest) N :=
  (pss_cons (ps_setDc (own := own) (wi := tI X.K F.H0 ρ (xs.map enc)) (g := lcG X scope tg) (tt := lcT X scope []) (tk := lcE X scope kx) (tv := lcE X scope vx) hc hN hy hyl hsw hi ok
    (fun s H C cl fp => ⟨fun pins s' σ H' v u Q I r ⟨t, h, q⟩ => (h s H C cl fp).run pins s' σ H' v u Q I r q⟩)
    (fun s H C cl fp => ⟨fun pins s' σ H' Q I ⟨t, h, q⟩ => (h s H C cl fp).run pins s' σ H' Q I q⟩)
    (fun s H C cl fp => ⟨fun pins s' σ H' Q I ⟨t, h, q⟩ => (h s H C cl fp).run pins s' σ H' Q I q⟩)
    (fun s H C cl fp => ⟨fun pins s' σ H' Q I ⟨t, h, q⟩ => (h s H C cl fp).run pins s' σ H' Q I q⟩) hs) PSs.any).imp fun D σ H ⟨G, ex, sl, aa⟩ =>
    dc_reading kf g hz hnd hb σ H (fun u H1 => gName i u σ H1 fun σ' H' => ∃ t, PSs X rest t ∧ t D σ' H') ⟨G, ex, sl, fun t G1 H1 ⟨a, e⟩ _ y1 hn tok => by
      subst e
      exact ⟨_, hr a, tS_up (D := D) (ex.trans y1) y1.g ((sl.up y1).setT tok fun z hz => sl.free (hn z hz)) aa⟩⟩
theorem swd_true {elt : Expr} {gs : List Comprehension} {scope : Scope} {pos py : Pos} {y : Str} {l : Nat} {env : PySem.Env} (hk : env.scope.kind = .function) (hy : env.scope.names.lookup y = some .local) (hl : (py.line == pos.line) = true)
    (ha : (scope.names.any fun (n, k) => n == y && (k == .local || k == .cell)) = false) : swapsWith (.DictComp kx vx gs scope pos) (some (.Name y py)) l env = pure true := by
  have ky : env.kindOf y = some .local := hy
  have hb : env.blockKind = .function := by unfold Env.blockKind; rw [hk]; rfl
  unfold swapsWith
  simp only [hb, ky, ha, Expr.pos, hl]
  rfl
/-- x, y = a new list, a new dict: plain local names -/
theorem ds_parLT {i j : Nat} {a b : Expr} {x y : Str} {px py pt : Pos} {kt k2 pt2} {ds : List D} {S : Thg → Prop} (ha : DL X F.H0 ρ a ds) (hb : PE X b (tNewT X.K F ρ S)) (hr : ∀ t, S t → DS X F ((ρ.set i (.own ds)).set j (.thg t)) rest N) (hc : X.calm = true) (hN : X.N.Nodup) (hi : X.N[i]? = some x := by rfl) (hj : X.N[j]? = some y := by rfl) (hij : i ≠ j := by decide)
    (hx : X.env.scope.names.lookup x = some .local := by rfl) (hy : X.env.scope.names.lookup y = some .local := by rfl)
    (hw : swappedStores [.Tuple [.Name x px, .Name y py] kt pt] (.Tuple [a, b] k2 pt2) X.env = pure (some [x, y]) := by rfl)
    (hs : swapsWithSole [.Tuple [.Name x px, .Name y py] kt pt] (.Tuple [a, b] k2 pt2) pos.line X.env = pure false := by rfl)
    (hs1 : starEach (a :: [b]) X.env = (false, eval a X.env) :: starEach [b] X.env := by rfl) (hs2 : starEach (b :: []) X.env = (false, eval b X.env) :: starEach [] X.env := by rfl) :
    DS X F ρ (.Assign [.Tuple [.Name x px, .Name y py] kt pt] (.Tuple [a, b] k2 pt2) pos :: rest) N :=
  (pss_cons (ps_par hc hN hi hj hij hx hy (pa_cons ha (pa_cons hb pa_nil hs2) hs1) hw hs) PSs.any).imp fun D σ H ⟨G, ex, sl, aa⟩ => ⟨G, ex.gh, sl, fun q vs G1 H1 y1 n n1 hq r => by
    have e1 := ex.trans y1
    refine ⟨G1, e1, sl.up y1, fun t G2 H2 hS _ y2 hnew tok => ⟨.ref q, .ref t.root, rfl, _, hr t hS, tS_up (D := D) (e1.trans y2) (y1.g.trans y2.g) ?_ aa⟩⟩
    have s1 := (fresh_own (H0 := F.H0) (i := i) ex sl y1 n n1 hq r).up y2
    exact s1.setT (i := j) tok fun z hz => ((fresh_own (H0 := F.H0) (i := i) ex sl y1 n n1 hq r).free (hnew z hz))⟩
end
end DL
/-! DL37: list(range(n)), tuple(range(n)); the least of a list of data. -/
namespace DL
open PySem PySem.Spec PyProof.Rows L2
theorem dpAll_of_ints {K : PySem.W.Frag} {G : Hp} : ∀ l : List Int, DpAll K G (l.map V.int) (l.map PyData.int)
  | [] => .nil
  | n :: r => .cons (.int n) (dpAll_of_ints r)
section
variable {X : Cx} {F : Fr0} {E : Fam} {H0 : Bs} {ρ : Env} {a e : Expr} {p p1 p2 pos : Pos} {n : Nat} {k : Nat}
theorem listRg (bt : Bt X.mg) (hc : X.calm = true) (ha : DE X H0 ρ a (.int (n : Int))) (hz : n ≤ 100000) (hg : Gl X "list" := by rfl) (hg2 : Gl X "range" := by rfl) (na : starEach [a] X.env = (false, eval a X.env) :: starEach [] X.env := by rfl) (na2 : starEach [.Call (.Name "range" p1) [a] [] p2] X.env = (false, eval (.Call (.Name "range" p1) [a] [] p2) X.env) :: starEach [] X.env := by rfl) :
    DL X H0 ρ (.Call (.Name "list" p) [.Call (.Name "range" p1) [a] [] p2] [] pos) ((List.range n).map fun i : Nat => .int (i : Int)) :=
  (pe_listRg hc hg (bt.at _) (prg_1 hg2 (bt.at _) ha na) na2).imp fun σ H Q ⟨G, x, sl, q⟩ => ⟨G, x, sl, fun v G1 H1 y r => by
    obtain rfl := dp_int r
    refine ⟨n, rfl, ⟨by omega, by omega, by omega, by omega, by omega⟩, fun l hl => q l _ G1 _ (y.trans (Ext.heap y.gh (Ex.new hl))) (y.h.back hl) (y.gh.back hl) upd_same ?_⟩
    have h := dpAll_of_ints (K := X.K) (G := G1) ((List.range n).map fun i : Nat => (i : Int))
    rw [List.map_map, List.map_map] at h
    unfold rgV
    rw [show ((n : Int) - 0).toNat = n from by omega, show (fun i : Nat => V.int (0 + (i : Int))) = (V.int ∘ fun i : Nat => (i : Int)) from by funext i; simp]
    exact h⟩
theorem tupRg (bt : Bt X.mg) (hc : X.calm = true) (ha : DE X H0 ρ a (.int (n : Int))) (hz : n ≤ 100000) (hg : Gl X "tuple" := by rfl) (hg2 : Gl X "range" := by rfl) (na : starEach [a] X.env = (false, eval a X.env) :: starEach [] X.env := by rfl) (na2 : starEach [.Call (.Name "range" p1) [a] [] p2] X.env = (false, eval (.Call (.Name "range" p1) [a] [] p2) X.env) :: starEach [] X.env := by rfl) :
    DE X H0 ρ (.Call (.Name "tuple" p) [.Call (.Name "range" p1) [a] [] p2] [] pos) (.tuple ((List.range n).map fun i : Nat => .int (i : Int))) :=
  (pe_tupRg hc hg (bt.at _) (prg_1 hg2 (bt.at _) ha na) na2).imp fun σ H Q ⟨G, x, sl, q⟩ => ⟨G, x, sl, fun v G1 H1 y r => by
    obtain rfl := dp_int r
    refine ⟨n, rfl, ⟨by omega, by omega, by omega, by omega, by omega⟩, fun l hl => q (.ref l) (upd G1 l (.tup (rgV 0 n))) _ (y.trans (Ext.new y.gh hl)) (.tup (.inl (.inl upd_same)) ?_)⟩
    have h := dpAll_of_ints (K := X.K) (G := upd G1 l (.tup (rgV 0 n))) ((List.range n).map fun i : Nat => (i : Int))
    rw [List.map_map, List.map_map] at h
    show DpAll _ _ (rgV 0 n) _
    generalize upd G1 l (.tup (rgV 0 n)) = G2 at h ⊢
    unfold rgV
    rw [show ((n : Int) - 0).toNat = n from by omega, show (fun i : Nat => V.int (0 + (i : Int))) = (V.int ∘ fun i : Nat => (i : Int)) from by funext i; simp]
    exact h⟩
end
/-! ### min of alike data -/
def rMinDat (K : PySem.W.Frag) : List V → Hp → VK → Prop := fun vs H Q => ∃ a ws x xs, vs = [V.ref a] ∧ SqL K H a ws ∧ DpAll K H ws (x :: xs) ∧ PySem.W.AlikeAll (x :: xs) ∧ PyData.depthAll (x :: xs) ≤ 50 ∧ PyData.canLayAll0 (x :: xs) = true ∧
  ∀ (i : Nat) v, ws[i]? = some v → (x :: xs)[i]? = some (PySem.W.minD x xs) → Q v H
theorem cr_minDat {X : Cx} (hc : X.calm = true) (hu : X.A.units + 64 < cLine) : CallR X (.builtin "min") (rMinDat X.K) := by
  intro pins s σ H vs us Q I r h
  obtain ⟨a, ws, x, xs, rfl, hs, hd, hal, hdep, hcl, q⟩ := h
  obtain ⟨its, rv, hl, hz⟩ := I.list hs
  rw [Vals.ref1 r]
  have hlen : ws.length = (x :: xs).length := hd.length
  have e1 : PySem.W.EachIs (fun (u : Value) (p : V × D) => RelV p.1 u) its (ws.zip (x :: xs)) := vals_each rv hlen
  have e2 : PySem.W.EachIs (fun (u : Value) (p : V × D) => ∃ as, Reads s.heap u p.2 as) its (ws.zip (x :: xs)) := reads_each e1 fun p hp u ru => Dp.reads I _ _ _ (dpAll_zip hd p hp) ru
  have zs : (ws.zip (x :: xs)).map (·.2) = x :: xs := zip_snd hlen
  obtain ⟨as, ra⟩ := PySem.W.each_readsAll (fun p : V × D => p.2) e2
  rw [zs] at ra
  refine PySem.W.min_list_data (I.ok.hd hc) hl.isList (vs := its.toArray) (by simpa using ra) hal (by omega) fun i v h' tk bs hi hr hk => ?_
  have hi' : its[i]? = some v := by simpa using hi
  have hli : i < ws.length := by
    have h1 := (List.getElem?_eq_some_iff.mp hi').1
    have h2 := Vals.length rv
    omega
  obtain ⟨w9, hw9⟩ : ∃ w9, ws[i]? = some w9 := ⟨_, List.getElem?_eq_getElem hli⟩
  obtain ⟨v9, hv9, rw9⟩ := rv.get hw9
  rw [hi'] at hv9
  cases hv9
  have hI : Inv X pins σ H { s with heap := h', toks := tk } := I.kept hk
  refine ⟨w9, H, hI, rw9, q i w9 hw9 ?_⟩
  obtain ⟨d, hd9, rd⟩ := hd.at' hw9
  obtain ⟨bs2, r2⟩ := Dp.reads hI _ _ _ rd rw9
  have hcd : d.canLay0 = true := by
    have hm := List.mem_of_getElem? hd9
    exact PyData.canLay0_of_mem _ _ hcl hm
  rw [hd9, PySem.SeqAt.Reads.unique d (PySem.W.minD x xs) v bs2 bs hcd r2 hr]
theorem minDatR {X : Cx} {H0 : Bs} {ρ : Env} {e : Expr} {x : D} {xs : List D} {p1 pos : Pos} {k : Nat} (bt : Bt X.mg) (hc : X.calm = true) (hr : Room k X.A) (hal : PySem.W.AlikeAll (x :: xs)) (hd : PyData.depthAll (x :: xs) ≤ 50) (hcl : PyData.canLayAll0 (x :: xs) = true) (ha : DR X H0 ρ e (x :: xs)) (hg : Gl X "min" := by rfl) (he : starEach (e :: []) X.env = (false, eval e X.env) :: starEach [] X.env := by rfl) (hpl : (backTo pos (starEach [] X.env)).any (·.1) = false := by rfl) : DE X H0 ρ (.Call (.Name "min" p1) [e] [] pos) (PySem.W.minD x xs) :=
  de_callBR (cr_minDat hc hr.units) (fun p vs G H Q e h rs q => ⟨p, vs, x, xs, rfl, h, rs.up e, hal, hd, hcl, fun i v hv hx => by
    obtain ⟨u, hu, ru⟩ := rs.at hx
    rw [hv] at hu; cases hu
    exact q v G H (Ext.refl e) ru⟩) hg (bt.at _) (by decide +kernel) ha (by decide) (by decide) he hpl
end DL
/-! S12: lots; ridges that tell; the tree. -/
namespace LP
open PySem PySem.Spec PyProof.Rows L2 DL
noncomputable def plotsO (d h : D) : Out := if isShoreD d = true then (if isWholeD h 0 9 = true then .ok (.list ((allLots (shOf d) (intOf h)).map toD)) else .err "BadHeight") else .err "BadShore"
theorem rg_at {s : Sh} {n : Int} (h : 0 ≤ n ∧ n < s.2.length) : atI (s.2.map rgT) n = some (rgT (rgAt s n)) := by
  have hl : n.toNat < (s.2.map rgT).length := by rw [List.length_map]; omega
  have e := atI_nat (xs := s.2.map rgT) hl
  rw [show ((n.toNat : Nat) : Int) = n by omega] at e
  rw [e, List.getElem_map]
  unfold rgAt
  rw [List.getElem?_eq_getElem (by omega)]; rfl
theorem sub_shT (s : Sh) (ns : List Int) : shT (subS s ns) = .tuple [strsD s.1, .tuple (ns.map fun n => rgT (rgAt s n))] := by
  unfold shT subS
  rw [List.map_map]; rfl
/-- numbers of ridges, rising -/
def riseI (l : List Int) : Bool := (l.zip (l.drop 1)).all fun z => decide (z.1 < z.2)
theorem riseI_up : ∀ {l : List Int}, riseI l = true → l.Pairwise (· < ·)
  | [], _ => .nil
  | [x], _ => by simp
  | x :: y :: r, h => by
    unfold riseI at h
    simp only [List.drop_succ_cons, List.drop_zero, List.zip_cons_cons, List.all_cons, Bool.and_eq_true, decide_eq_true_eq] at h
    have ih : (y :: r).Pairwise (· < ·) := riseI_up (by unfold riseI; exact h.2)
    refine List.pairwise_cons.mpr ⟨fun z hz => ?_, ih⟩
    rcases List.mem_cons.mp hz with rfl | hz
    · exact h.1
    · exact Int.lt_trans h.1 ((List.pairwise_cons.mp ih).1 z hz)
def wholesD (m : Nat) : D → Bool
  | .tuple xs => xs.all fun x => isWholeD x 0 ((m : Int) - 1)
  | _ => false
theorem wholes_of {m : Nat} {d : D} (h : wholesD m d = true) : d = intsD (cntOf d) ∧ ∀ n ∈ cntOf d, 0 ≤ n ∧ n < m := by
  cases d with
  | tuple xs =>
    have h : xs.all (fun x => isWholeD x 0 ((m : Int) - 1)) = true := h
    rw [List.all_eq_true] at h
    have each : ∀ x ∈ xs, x = .int (intOf x) ∧ 0 ≤ intOf x ∧ intOf x < m := fun x hx => by
      have := h x hx
      cases x with
      | int n =>
        simp only [isWholeD, Bool.and_eq_true, decide_eq_true_eq] at this
        exact ⟨rfl, this.1, by show n < _; omega⟩
      | _ => cases this
    refine ⟨?_, fun n hn => ?_⟩
    · show PyData.tuple xs = .tuple ((xs.map intOf).map .int)
      rw [List.map_map]
      congr 1
      exact (List.map_id xs).symm.trans (List.map_congr_left fun x hx => (each x hx).1)
    · obtain ⟨x, hx, rfl⟩ := List.mem_map.mp (show n ∈ xs.map intOf from hn)
      exact (each x hx).2
  | _ => cases h
theorem cntOf_ints9 (b : List Int) : cntOf (intsD b) = b := by
  show (b.map PyData.int).map intOf = b
  rw [List.map_map]
  exact List.map_id b
noncomputable def tellsO (d e : D) : Out := if isShoreD d = true then (if wholesD (shOf d).2.length e = true ∧ riseI (cntOf e) = true then .ok (.bool (tellB (shOf d) (cntOf e))) else .err "BadLot") else .err "BadShore"
section
variable {P : Program} {w : World} {K : PySem.W.Frag} {mg : Str → Option Value} {base : Heap}
abbrev spPlots (K : PySem.W.Frag) (mg : Str → Option Value) : Sp := spD K mg (α := D × D) (fun a => [a.1, a.2]) (fun a => tameShore a.1) (fun a => plotsO a.1 a.2)
abbrev spWithR (K : PySem.W.Frag) (mg : Str → Option Value) : Sp := spD K mg (α := Sh × List Int) (fun a => [shT a.1, intsD a.2]) (fun a => InR a.1 a.2 ∧ a.2.length ≤ 1000) (fun a => .ok (shT (subS a.1 a.2)))
theorem k_with_ridges (T : Tx K mg) : DefOk P w K mg base 1 "with_ridges" p_with_ridges (spWithR K mg) := by
  refine T.d_with_ridges.ok sc_with_ridges (fun _ => rfl) fun ⟨s, ns⟩ ⟨hR, hl⟩ f cdv A outer sh H G E hr tk hp => ?_
  have bt := T.bt
  have nd := sc_with_ridges.nd
  have hR : InR s ns := hR
  have hl : ns.length ≤ 1000 := hl
  refine ds_ret (d := .tuple [strsD s.1, .tuple ((ns.filter fun _ => true).map fun n => rgT (rgAt s n))]) (de_tup (da_cons (de_ix ix_tup (od_ixT rfl) (v 0) de_int) (da_cons (tupC (xs := ns) (enc := fun n => .int n) (own := [("number", 2)]) (fun _ => true) (fun n => rgT (rgAt s n)) bt rfl nd (di_tup (v 1)) (blkOk_by (N := n_with_ridges) (sc := defScope s_with_ridges) (by decide +kernel)) (by omega) fun n hn => ?_) da_nil)) (Nat.le_of_ble_eq_true rfl)) ?_
  · exact ⟨_, _, fun j h => h, fun s' H C cl fp => ⟨dg_name (i := 2) nd, dts_nil, fun _ => de_ix ix_tup (od_ixT (rg_at (hR n hn))) (de_ix ix_tup (od_ixT (xs := [strsD s.1, .tuple (s.2.map rgT)]) rfl) (v 0) de_int) (v 2)⟩⟩
  · show Out.ok _ = Out.ok _
    rw [List.filter_eq_self.mpr fun _ _ => rfl, sub_shT]
abbrev spDoTell (K : PySem.W.Frag) (mg : Str → Option Value) : Sp := spD K mg (α := Sh × List Int) (fun a => [shT a.1, intsD a.2]) (fun a => Good a.1 ∧ InR a.1 a.2 ∧ a.2.length ≤ 10) (fun a => .ok (.bool (tellB a.1 a.2)))
theorem k_do_tell (T : Tx K mg) : DefOk P w K mg base 2 "do_tell" p_do_tell (spDoTell K mg) := by
  refine T.d_do_tell.ok sc_do_tell (fun _ => rfl) fun ⟨s, ns⟩ ⟨g, hR, hl⟩ f cdv A outer sh H G E hr tk hp => ?_
  have g : Good s := g
  have hR : InR s ns := hR
  have hl : ns.length ≤ 10 := hl
  have bt := T.bt
  have nd := sc_do_tell.nd
  obtain ⟨t9, m9⟩ := T.c_HIGHEST
  have kW := k_with_ridges (P := P) (w := w) (base := base) T
  have kL := k_all_lots (P := P) (w := w) (base := base) T
  refine ds_set (i := 2) (de_call kW (s, ns) hr (da_cons (v 0) (da_cons (v 1) da_nil)) ⟨hR, Nat.le_trans hl (by decide)⟩ rfl rfl) ?_ nd
  refine ds_ret (allC (xs := List.range 10) (enc := fun i => .int (i : Nat)) (own := [("height", 3)]) (fun h : Nat => decide (allLots (subS s ns) (h : Int) = allLots s (h : Int))) bt rfl nd (di_to (range1 (n := 9 + 1) bt (de_bin op_add od_add (de_glob rfl m9) de_int) (by decide)) rfl) (blkOk_by (N := n_do_tell) (sc := defScope s_do_tell) (by decide +kernel)) (by rw [List.length_range]; decide) fun k hk => ?_) rfl
  refine ⟨_, _, fun j h => h, fun s' H C cl fp => ⟨dg_name (i := 3) nd, dts_nil, fun _ => de_to (de_cmp (op_eqP hr.units) (od_eqP (da := .list ((allLots (subS s ns) (k : Int)).map toD)) (db := .list ((allLots s (k : Int)).map toD)) (pl_ty _) (pl_ty _) (.inl ?_)) (de_call kL (subS s ns, (k : Int)) hr (da_cons (v 2) (da_cons (v 3) da_nil)) (good_sub g hR hl) rfl rfl) (de_call kL (s, (k : Int)) hr (da_cons (v 0) (da_cons (v 3) da_nil)) g rfl rfl)) ?_⟩⟩
  · exact Nat.le_trans (PySem.W.Datum.depth_le (allLots (subS s ns) (k : Int))) (by decide)
  · exact congrArg PyData.bool (PySem.W.Datum.eqv (allLots (subS s ns) (k : Int)) (allLots s (k : Int)))
abbrev spTells (K : PySem.W.Frag) (mg : Str → Option Value) : Sp := spD K mg (α := D × D) (fun a => [a.1, a.2]) (fun a => tameShore a.1 ∧ ∀ xs, a.2 = .tuple xs → xs.length ≤ 1000) (fun a => tellsO a.1 a.2)
end
end LP
/-! DL38: x, y = a new list, a new thing, whatever the names' kinds. -/
namespace DL
open PySem PySem.Spec PyProof.Rows L2
section
variable {X : Cx} {F : Fr0} {ρ : Env} {rest : List Stmt} {N : DEnd} {pos : Pos}
theorem ds_parLT2 {i j : Nat} {a b : Expr} {x y : Str} {px py pt : Pos} {kt k2 pt2} {ds : List D} {S : Thg → Prop} (ha : DL X F.H0 ρ a ds) (hb : PE X b (tNewT X.K F ρ S)) (hr : ∀ t, S t → DS X F ((ρ.set i (.own ds)).set j (.thg t)) rest N) (hc : X.calm = true) (hN : X.N.Nodup) (hi : X.N[i]? = some x := by rfl) (hj : X.N[j]? = some y := by rfl)
    (hx : Loc X.env.scope x := by first | exact .inl rfl | exact .inr rfl) (hy : Loc X.env.scope y := by first | exact .inl rfl | exact .inr rfl) (hfx : X.fn x = true ∨ X.env.scope.names.lookup x = some .local := by first | exact .inl rfl | exact .inr rfl | assumption) (hfy : X.fn y = true ∨ X.env.scope.names.lookup y = some .local := by first | exact .inl rfl | exact .inr rfl | assumption)
    (hw : swappedStores [.Tuple [.Name x px, .Name y py] kt pt] (.Tuple [a, b] k2 pt2) X.env = pure none := by rfl) (hs : swapsWithSole [.Tuple [.Name x px, .Name y py] kt pt] (.Tuple [a, b] k2 pt2) pos.line X.env = pure false := by rfl)
    (h1 : (assignEach [.Tuple [.Name x px, .Name y py] kt pt] X.env).map (·.2) = [assign (.Tuple [.Name x px, .Name y py] kt pt) X.env] := by rfl)
    (hs1 : starEach (a :: [b]) X.env = (false, eval a X.env) :: starEach [b] X.env := by rfl) (hs2 : starEach (b :: []) X.env = (false, eval b X.env) :: starEach [] X.env := by rfl)
    (ht1 : (assignEach [.Name x px, .Name y py] X.env).map (·.2) = assign (.Name x px) X.env :: (assignEach [.Name y py] X.env).map (·.2) := by rfl) (ht2 : (assignEach [.Name y py] X.env).map (·.2) = assign (.Name y py) X.env :: (assignEach [] X.env).map (·.2) := by rfl)
    (hn : (assignEach [.Name x px, .Name y py] X.env).length = 2 := by rfl) (hst : (assignEach [.Name x px, .Name y py] X.env).findIdx? (·.1) = none := by rfl) :
    DS X F ρ (.Assign [.Tuple [.Name x px, .Name y py] kt pt] (.Tuple [a, b] k2 pt2) pos :: rest) N :=
  (pss_cons (ps_asg (pe_tup (pa_cons ha (pa_cons hb pa_nil hs2) hs1)) (pg_tup hc (pgs_cons (pg_name hN hi hx hfx) (pgs_cons (pg_name hN hj hy hfy) pgs_nil ht2) ht1) hn hst) hs hw h1) PSs.any).imp fun D σ H ⟨G, ex, sl, aa⟩ => ⟨G, ex.gh, sl, fun q vs G1 H1 y1 n n1 hq r => by
    have e1 := ex.trans y1
    refine ⟨G1, e1, sl.up y1, fun t G2 H2 hS _ y2 hnew tok => ⟨by show 2 ≤ sizeLine; decide, fun T hT => ?_⟩⟩
    refine ⟨T, [.ref q, .ref t.root], rfl, .inl (.inl upd_same), rfl, .ref q, [.ref t.root], rfl, .ref t.root, [], rfl, rfl, _, hr t hS, ?_⟩
    have s1 := (fresh_own (H0 := F.H0) (i := i) ex sl y1 n n1 hq r).up y2
    have s2 := s1.setT (i := j) tok fun z hz => ((fresh_own (H0 := F.H0) (i := i) ex sl y1 n n1 hq r).free (hnew z hz))
    have xT : Ext G2 H2 G2 (upd H2 T (.tup [.ref q, .ref t.root])) := Ext.heap y2.gh (Ex.new hT)
    exact tS_up (D := D) ((e1.trans y2).trans xT) (y1.g.trans y2.g) (s2.up xT) aa⟩
theorem neS {k : Nat} {H0 : Bs} {a b : Expr} {x y : Str} (hr : Room k X.A) (ha : DE X H0 ρ a (.str x)) (hb : DE X H0 ρ b (.str y)) (hm : behindInMarks .NotEq b = false := by first | exact nomark _ | rfl) : DT X H0 ρ (.Compare a [.NotEq] [b] pos) (!decide (x = y)) :=
  dt_to (dt_cmp (op_neP hr.units) (od_neP rfl rfl (.inl (Nat.zero_le _))) ha hb hm) (by rw [eqv_str])
end
end DL
/-! S13: the tree of a shore. -/
namespace LP
open PySem PySem.Spec PyProof.Rows L2 DL
def ExC (s : Sh) (F : List Int) (x y : Str) : Prop := ∃ h, Conn (subS s F) h x y
theorem conn_up {t : Sh} {h k : Int} (hk : h ≤ k) {x y : Str} (c : Conn t h x y) : Conn t k x y := conn_of (fun a b c hr hc => ⟨c, hr, Int.le_trans hc hk⟩) c
theorem conn_snoc {s : Sh} {F : List Int} {n k : Int} {x y : Str} : Conn (subS s (F ++ [n])) k x y ↔ Conn (s.1, rgAt s n :: (subS s F).2) k x y := by
  refine ⟨fun c => conn_mem (fun r hr => ?_) c, fun c => conn_mem (fun r hr => ?_) c⟩
  · obtain ⟨m, hm, rfl⟩ := List.mem_map.mp hr
    rcases List.mem_append.mp hm with hm | hm
    · exact List.mem_cons_of_mem _ (List.mem_map.mpr ⟨m, hm, rfl⟩)
    · rw [List.mem_singleton.mp hm]; exact List.mem_cons_self
  · rcases List.mem_cons.mp hr with rfl | hr
    · exact List.mem_map.mpr ⟨n, by simp, rfl⟩
    · obtain ⟨m, hm, rfl⟩ := List.mem_map.mp hr
      exact List.mem_map.mpr ⟨m, List.mem_append_left _ hm, rfl⟩
theorem exC_add {s : Sh} {F : List Int} {n : Int} {x y : Str} : ExC s (F ++ [n]) x y ↔ ExC s F x y ∨ (ExC s F x (rgAt s n).1 ∧ ExC s F (rgAt s n).2.1 y) ∨ (ExC s F x (rgAt s n).2.1 ∧ ExC s F (rgAt s n).1 y) := by
  have cc : ∀ {k}, (rgAt s n).2.2 ≤ k → ∀ {x y : Str}, Conn (subS s (F ++ [n])) k x y ↔ _ := fun {k} hk {x y} => conn_snoc.trans (conn_cons (V := s.1) (E := (subS s F).2) (a := (rgAt s n).1) (b := (rgAt s n).2.1) (c := (rgAt s n).2.2) hk)
  constructor
  · rintro ⟨h, c⟩
    have c := (cc (Int.le_max_right h _)).mp (conn_up (Int.le_max_left h (rgAt s n).2.2) c)
    rcases c with c | ⟨c1, c2⟩ | ⟨c1, c2⟩
    · exact .inl ⟨_, c⟩
    · exact .inr (.inl ⟨⟨_, c1⟩, ⟨_, c2⟩⟩)
    · exact .inr (.inr ⟨⟨_, c1⟩, ⟨_, c2⟩⟩)
  · rintro (⟨h, c⟩ | ⟨⟨h1, c1⟩, ⟨h2, c2⟩⟩ | ⟨⟨h1, c1⟩, ⟨h2, c2⟩⟩)
    · exact ⟨_, (cc (Int.le_max_right h _)).mpr (.inl (conn_up (Int.le_max_left h (rgAt s n).2.2) c))⟩
    · refine ⟨max (max h1 h2) (rgAt s n).2.2, (cc (Int.le_max_right _ _)).mpr (.inr (.inl ⟨conn_up ?_ c1, conn_up ?_ c2⟩))⟩ <;> omega
    · refine ⟨max (max h1 h2) (rgAt s n).2.2, (cc (Int.le_max_right _ _)).mpr (.inr (.inr ⟨conn_up ?_ c1, conn_up ?_ c2⟩))⟩ <;> omega
theorem exC_nil {s : Sh} {x y : Str} : ExC s [] x y ↔ x = y := ⟨fun ⟨_, c⟩ => conn_nil (V := s.1) c, fun e => ⟨0, e ▸ .refl _⟩⟩
/-- labels that tell what is joined -/
def LabOk (s : Sh) (F : List Int) (lab : Str → Str) : Prop := ∀ x ∈ s.1, ∀ y ∈ s.1, lab x = lab y ↔ ExC s F x y
theorem lab_add {s : Sh} {F : List Int} {lab : Str → Str} {n : Int} (ok : LabOk s F lab) (ha : (rgAt s n).1 ∈ s.1) (hb : (rgAt s n).2.1 ∈ s.1) : LabOk s (F ++ [n]) (fun p => if lab p = lab (rgAt s n).2.1 then lab (rgAt s n).1 else lab p) := fun x hx y hy => by
  rw [exC_add, ← ok x hx y hy, ← ok x hx _ ha, ← ok x hx _ hb, ← ok _ hb y hy, ← ok _ ha y hy]
  dsimp only
  split <;> split <;> rename_i h1 h2
  · simp [h1, h2]
  · rw [h1]
    constructor
    · intro h; exact .inr (.inr ⟨rfl, h⟩)
    · rintro (h | ⟨h, h'⟩ | ⟨_, h⟩)
      · exact absurd h.symm h2
      · exact absurd h'.symm h2
      · exact h
  · rw [h2]
    constructor
    · intro h; exact .inr (.inl ⟨h, rfl⟩)
    · rintro (h | ⟨h, _⟩ | ⟨h, h'⟩)
      · exact absurd h h1
      · exact h
      · exact absurd h h1
  · constructor
    · exact .inl
    · rintro (h | ⟨h, h'⟩ | ⟨h, h'⟩)
      · exact h
      · exact absurd h'.symm h2
      · exact absurd h h1
theorem lookup_mapS {f : Str → D} : ∀ {l : List Str} {p : Str}, p ∈ l → (l.map fun p => (p, f p)).lookup p = some (f p)
  | [], _, h => by cases h
  | x :: l, p, h => by
    rw [List.map_cons, List.lookup_cons]
    cases q : p == x with
    | true =>
      have : p = x := by simpa using q
      subst this; rfl
    | false =>
      rcases List.mem_cons.mp h with e | h
      · subst e; simp at q
      · exact lookup_mapS h
theorem ordQ_len (s : Sh) : (ordQ s).length = s.2.length := by rw [(ordQ_perm s).length_eq]; unfold rangeI; rw [List.length_map, List.length_range]
section
variable {P : Program} {w : World} {K : PySem.W.Frag} {mg : Str → Option Value} {base : Heap}
/-- between the turns -/
def TrI (s : Sh) (i : Nat) (ρ : DL.Env) : Prop := ∃ F lab a a3 a4 a5 a6, ρ = [.dat (shT s), .own (F.map .int), .thg (dkT a (s.1.map fun p => (p, PyData.str (lab p)))), a3, a4, a5, a6, .un, .un] ∧ kr s F ((ordQ s).drop i) = treeL s ∧ LabOk s F lab ∧ F.length ≤ i
abbrev spTree (K : PySem.W.Frag) (mg : Str → Option Value) : Sp := spD K mg (α := Sh) (fun s => [shT s]) Good (fun s => .ok (intsD (treeS s)))
theorem k_tree_of (T : Tx K mg) : DefOk P w K mg base 1 "tree_of" p_tree_of (spTree K mg) := by
  refine T.d_tree_of.ok sc_tree_of (fun _ => rfl) fun s g f cdv A outer sh H G E hr tk hp => ?_
  have g : Good s := g
  have bt := T.bt
  have nd := sc_tree_of.nd
  have hV : s.1.length ≤ 100000 := Nat.le_trans g.six (by decide)
  have hE : s.2.length ≤ 100000 := Nat.le_trans g.ten (by decide)
  refine ds_parLT2 (i := 1) (j := 2) (S := fun t => ∃ a, t = dkT a (s.1.map fun p => (id p, PyData.str p))) (dl_lst da_nil) (pe_newD (own := [("pool", 7)]) (xs := s.1) (enc := PyData.str) id PyData.str rfl nd (di_tup (de_ix ix_tup (od_ixT (xs := [strsD s.1, .tuple (s.2.map rgT)]) rfl) (v 0) de_int)) (blkOk_by (N := n_tree_of) (sc := defScope s_tree_of) (by decide +kernel)) hV (by rw [List.map_id]; exact good_nd g) fun p hp => ?_) ?_ rfl nd
  · exact ⟨_, _, fun j h => h, fun s' H C cl fp => ⟨dg_name (i := 7) nd, v 7, v 7⟩⟩
  rintro t ⟨a, rfl⟩
  refine ds_for (items := (tsort (hiNo s)).map toD) (TrI s) (fun ρ => ∃ a a3 a4 a5 a6, ρ = [.dat (shT s), .own ((treeL s).map .int), a, a3, a4, a5, a6, .un, .un]) (di_list (dl_e (dl_to (sortedR bt hr (xs := (hiNo s).map toD) (alike_ty (hiNo s)) (.inl fun d hd => ?_) (fun d hd => (nn_ty (by decide) (hiNo s) d hd).2) (dr_to (dl_r (dl_map (xs := s.2.zipIdx) (enc := fun z => .tuple [.int (z.2 : Nat), rgT z.1]) (own := [("number", 4), ("ridge", 8)]) (fun z => .tuple [.int z.1.2.2, .int (z.2 : Nat)]) rfl nd (di_to (enumT bt (de_ix ix_tup (od_ixT (xs := [strsD s.1, .tuple (s.2.map rgT)]) rfl) (v 0) de_int)) (by rw [List.zipIdx_map, List.map_map]; rfl)) (blkOk_by (N := n_tree_of) (sc := defScope s_tree_of) (by decide +kernel)) (by rw [List.length_zipIdx]; exact hE) fun z hz => ?_)) (by unfold hiNo; rw [List.map_map]; rfl))) (dsort_ty (hiNo s))))) ⟨[], id, a, _, _, _, _, rfl, rfl, fun x _ y _ => exC_nil.symm, Nat.le_refl _⟩ ?_ (fun ρ' ⟨F, lab, a, a3, a4, a5, a6, e1, e2, e3, e4⟩ => ⟨.thg (dkT a (s.1.map fun p => (p, PyData.str (lab p)))), a3, a4, a5, a6, e1.trans ?_⟩) ?_ hp rfl
  · obtain ⟨z, _, rfl⟩ := List.mem_map.mp hd
    exact ⟨_, _, rfl⟩
  · exact ⟨_, _, fun j h => h, fun s' H C cl fp => ⟨dg_tup rfl (dgs_cons (dg_name (i := 4) nd) (dgs_cons (dg_name (i := 8) nd) dgs_nil)), dts_nil, fun _ => de_tup (da_cons (de_ix ix_tup (od_ixT (xs := [.str z.1.1, .str z.1.2.1, .int z.1.2.2]) rfl) (v 8) de_int) (da_cons (v 4) da_nil))⟩⟩
  · rintro i d ρ' hd ⟨F, lab, a, a3, a4, a5, a6, rfl, hK, hL, hF⟩
    rw [List.getElem?_map] at hd
    cases hq : (tsort (hiNo s))[i]? with
    | none => rw [hq] at hd; cases hd
    | some q =>
      rw [hq] at hd
      cases hd
      obtain ⟨hh, n⟩ := q
      have hon : (ordQ s)[i]? = some n := by unfold ordQ; rw [List.getElem?_map, hq]; rfl
      have hil : i < s.2.length := by rw [← ordQ_len]; exact (List.getElem?_eq_some_iff.mp hon).1
      have hn := ordQ_mem.mp (List.mem_of_getElem? hon)
      have hdr : (ordQ s).drop i = n :: (ordQ s).drop (i + 1) := by
        rw [List.drop_eq_getElem?_toList_append, hon]; rfl
      rw [hdr] at hK
      obtain ⟨ha, hb⟩ := g.ends _ (rgAt_mem hn)
      have hrg := rg_at hn
      refine ⟨_, _, dg_tup (ds := [.int hh, .int n]) rfl (dgs_cons (dg_name (i := 3) nd) (dgs_cons (dg_name (i := 4) nd) dgs_nil)), ?_⟩
      refine ds_asg (d := .tuple [.str (lab (rgAt s n).1), .str (lab (rgAt s n).2.1)]) (de_tup (da_cons (de_dk 2 hr rfl (lookup_mapS ha) (de_ix ix_tup (od_ixT (xs := [.str (rgAt s n).1, .str (rgAt s n).2.1, .int (rgAt s n).2.2]) rfl) (de_ix ix_tup (od_ixT hrg) (de_ix ix_tup (od_ixT (xs := [strsD s.1, .tuple (s.2.map rgT)]) rfl) (v 0) de_int) (v 4)) de_int)) (da_cons (de_dk 2 hr rfl (lookup_mapS hb) (de_ix ix_tup (od_ixT (xs := [.str (rgAt s n).1, .str (rgAt s n).2.1, .int (rgAt s n).2.2]) rfl) (de_ix ix_tup (od_ixT hrg) (de_ix ix_tup (od_ixT (xs := [strsD s.1, .tuple (s.2.map rgT)]) rfl) (v 0) de_int) (v 4)) de_int)) da_nil))) (dg_tup rfl (dgs_cons (dg_name (i := 5) nd) (dgs_cons (dg_name (i := 6) nd) dgs_nil))) ?_
      unfold kr at hK
      by_cases hc : lab (rgAt s n).1 = lab (rgAt s n).2.1
      · rw [if_pos (show ∃ h, Conn (subS s F) h (rgAt s n).1 (rgAt s n).2.1 from (hL _ ha _ hb).mp hc)] at hK
        exact ds_ifF (neS hr (v 5) (v 6)) (ds_nil ⟨F, lab, a, _, _, _, _, rfl, hK, hL, by omega⟩) (by rw [decide_eq_true hc]; rfl)
      · rw [if_neg (show ¬ ∃ h, Conn (subS s F) h (rgAt s n).1 (rgAt s n).2.1 from fun z => hc ((hL _ ha _ hb).mpr z))] at hK
        refine ds_if (TrI s (i + 1)) (neS hr (v 5) (v 6)) (fun _ => ?_) (fun z => absurd z (by rw [decide_eq_false hc]; decide)) fun ρ' h => ds_nil h
        refine ds_app (i := 1) (ds := F.map .int) rfl (v 4) (by rw [List.length_map]; omega) ?_
        refine ds_newT (i := 2) (S := fun t => ∃ a, t = dkT a (s.1.map fun p => (p, PyData.str (if lab p = lab (rgAt s n).2.1 then lab (rgAt s n).1 else lab p)))) (pe_newD (own := [("pool", 7)]) (xs := s.1) (enc := PyData.str) id (fun p => PyData.str (if lab p = lab (rgAt s n).2.1 then lab (rgAt s n).1 else lab p)) rfl nd (di_tup (de_ix ix_tup (od_ixT (xs := [strsD s.1, .tuple (s.2.map rgT)]) rfl) (v 0) de_int)) (blkOk_by (N := n_tree_of) (sc := defScope s_tree_of) (by decide +kernel)) hV (by rw [List.map_id]; exact good_nd g) (fun p hp => ?_)) (fun t ⟨a', et⟩ => by subst et; exact ds_nil ⟨F ++ [n], _, a', _, _, _, _, by rw [List.map_append]; rfl, hK, lab_add hL ha hb, by rw [List.length_append, List.length_singleton]; omega⟩) nd
        refine ⟨_, _, fun j h => h, fun s' H C cl fp => ⟨dg_name (i := 7) nd, v 7, ?_⟩⟩
        refine de_to (de_if (eqS hr (de_dk 2 hr rfl (lookup_mapS hp) (v 7)) (v 6)) (fun _ => v 5) (fun _ => de_dk 2 hr rfl (lookup_mapS hp) (v 7))) ?_
        split <;> rename_i h
        · rw [if_pos (of_decide_eq_true h)]
        · rw [if_neg (fun z => h (decide_eq_true z))]
  · rw [List.length_map, show (tsort (hiNo s)).length = (ordQ s).length by unfold ordQ; rw [List.length_map], List.drop_length] at e2
    rw [show F = treeL s from e2]
  · rintro ρ' ⟨a, a3, a4, a5, a6, rfl⟩
    refine ds_ret (tupleR bt (dr_to (dl_r (sortedR bt hr (xs := (treeL s).map .int) (alike_ty (treeL s)) (PySem.W.Sortable.others (enc := PyData.int) fun b => ⟨fun e => (by cases e), fun xs e => (by cases e)⟩) (fun d hd => (nn_ty (by decide) (treeL s) d hd).2) (vo 1))) (dsort_ty (treeL s)))) rfl
end
end LP
/-! S14: the least tree; ridges not needed. -/
namespace LP
open PySem PySem.Spec PyProof.Rows L2 DL
theorem rangeI_map (m : Nat) : ((List.range m).map fun i : Nat => PyData.int (i : Int)) = (rangeI m).map .int := by unfold rangeI; rw [List.map_map]; rfl
theorem rangeI_len (m : Nat) : (rangeI m).length = m := by unfold rangeI; rw [List.length_map, List.length_range]
theorem rangeI_lst (m : Nat) : PyData.list ((List.range m).map fun i : Nat => PyData.int (i : Int)) = lstD (rangeI m) := congrArg PyData.list (rangeI_map m)
theorem rangeI_mem_in {s : Sh} {l : List Int} (h : l.Sublist (rangeI s.2.length)) : InR s l := (sub_in h).1
noncomputable def leastTO (d : D) : Out := if isShoreD d = true then .ok (intsD (leastL (shOf d))) else .err "BadShore"
noncomputable def needlessL (s : Sh) : List Int := (rangeI s.2.length).filter fun n => tellB s ((rangeI s.2.length).filter fun m => !decide (m = n))
noncomputable def needlessO (d : D) : Out := if isShoreD d = true then .ok (lstD (needlessL (shOf d))) else .err "BadShore"
section
variable {P : Program} {w : World} {K : PySem.W.Frag} {mg : Str → Option Value} {base : Heap}
abbrev spLeastT (K : PySem.W.Frag) (mg : Str → Option Value) : Sp := spD K mg (α := D) (fun d => [d]) tameShore leastTO
theorem k_least_tree (T : Tx K mg) : DefOk P w K mg base 12 "least_tree" p_least_tree (spLeastT K mg) := by
  refine T.d_least_tree.ok sc_least_tree (fun _ => rfl) fun d ht f cdv A outer sh H G E hr tk hp => ?_
  have bt := T.bt
  have nd := sc_least_tree.nd
  have kS := (k_need_shore (P := P) (w := w) (base := base) T).mono (k := 11) (by decide)
  have kT := (k_tree_of (P := P) (w := w) (base := base) T).mono (k := 11) (by decide)
  have kD := (k_do_tell (P := P) (w := w) (base := base) T).mono (k := 11) (by decide)
  have kC := k_chosen (P := P) (w := w) (base := base) T 10
  refine ds_callX kS d hr (da_cons (v 0) da_nil) ht tk rfl (fun x hx => ?_) (fun n hn => ?_)
  rotate_left
  · by_cases h1 : isShoreD d = true
    · rw [h1] at hn; cases hn
    · show leastTO d = .err n
      unfold leastTO
      rw [if_neg h1]
      rw [Bool.not_eq_true] at h1; rw [h1] at hn; exact hn
  by_cases h1 : isShoreD d = true
  case neg => rw [Bool.not_eq_true] at h1; rw [h1] at hx; cases hx
  obtain ⟨e1, g⟩ := shOf_eq h1
  obtain ⟨s, hs⟩ : ∃ s, shOf d = s := ⟨_, rfl⟩
  have res : leastTO d = .ok (intsD (leastL s)) := by unfold leastTO; rw [if_pos h1, hs]
  rw [hs] at e1 g
  subst e1
  have hE : s.2.length ≤ 10 := g.ten
  have hTl : (treeL s).length ≤ 10 := by
    rw [← treeS_len]
    exact Nat.le_trans (sub_in (up_sub (treeS_up s) fun n hn => tree_in s n (treeS_mem.mp hn))).2 g.ten
  have sh1 : ∀ {ρ : DL.Env}, ρ[0]? = some (.dat (shT s)) → True := fun _ => trivial
  refine ds_set (i := 1) (d := .int ((treeL s).length : Nat)) (de_to (lenT (xs := (treeS s).map .int) bt (de_call kT s hr (da_cons (v 0) da_nil) g rfl rfl)) (by rw [List.length_map, treeS_len])) ?_ nd
  refine ds_for (items := (chosenL (treeL s).length (rangeI s.2.length)).map lstD) (fun i ρ => (∃ a2, ρ = [.dat (shT s), .dat (.int ((treeL s).length : Nat)), a2]) ∧ ∀ l ∈ (chosenL (treeL s).length (rangeI s.2.length)).take i, tellB s l = false) (fun ρ => leastL s = []) (di_list (de_call kC (rangeI s.2.length, (treeL s).length) hr (da_cons (dl_e (dl_to (listRg bt rfl (de_to (lenT (xs := s.2.map rgT) bt (de_ix ix_tup (od_ixT (xs := [strsD s.1, .tuple (s.2.map rgT)]) rfl) (v 0) de_int)) (by rw [List.length_map])) (by omega)) (rangeI_map _))) (da_cons (v 1) da_nil)) ⟨hTl, by show (rangeI s.2.length).length ≤ 10; rw [rangeI_len]; exact hE⟩ rfl rfl)) ⟨⟨_, rfl⟩, fun l hl => by simp at hl⟩ ?_ (fun ρ' ⟨_, h⟩ => ?_) (fun ρ' h => ds_ret (de_tup da_nil) ?_) hp rfl
  · rintro i d ρ' hd ⟨⟨a2, rfl⟩, hno⟩
    rw [List.getElem?_map] at hd
    cases hc : (chosenL (treeL s).length (rangeI s.2.length))[i]? with
    | none => rw [hc] at hd; cases hd
    | some l =>
      rw [hc] at hd
      cases hd
      have hl := mem_chosenL.mp (List.mem_of_getElem? hc)
      have hin := sub_in hl.1
      refine ⟨_, _, dg_name (i := 2) nd, ?_⟩
      refine ds_ifRet (p := tellB s l) (dt_val (de_call kD (s, l) hr (da_cons (v 0) (da_cons (tupleR bt (de_r (v 2))) da_nil)) ⟨g, hin.1, Nat.le_trans hin.2 g.ten⟩ rfl rfl)) (fun h => ds_ret (tupleR bt (de_r (v 2))) ?_) (fun h => ds_nil ⟨⟨_, rfl⟩, fun m hm => ?_⟩)
      · show leastTO (shT s) = _
        rw [res]
        have hf : (chosenL (treeL s).length (rangeI s.2.length)).find? (tellB s) = some l := by
          rw [List.find?_eq_some_iff_append]
          refine ⟨h, _, (chosenL (treeL s).length (rangeI s.2.length)).drop (i + 1), ?_, fun m hm => by rw [hno m hm]; rfl⟩
          have h1 : (chosenL (treeL s).length (rangeI s.2.length)).drop i = l :: (chosenL (treeL s).length (rangeI s.2.length)).drop (i + 1) := by
            rw [List.drop_eq_getElem?_toList_append, hc]; rfl
          rw [← h1, List.take_append_drop]
        unfold leastL
        rw [hf]; rfl
      · rw [List.take_add_one, hc] at hm
        rcases List.mem_append.mp hm with hm | hm
        · exact hno m hm
        · have : m = l := by simpa using hm
          rw [this]; exact h
  · rw [List.length_map, List.take_length] at h
    unfold leastL
    rw [List.find?_eq_none.mpr fun l hl => by rw [h l hl]; decide]; rfl
  · show leastTO (shT s) = _
    rw [res, h]; rfl
abbrev spNeedless (K : PySem.W.Frag) (mg : Str → Option Value) : Sp := spD K mg (α := D) (fun d => [d]) tameShore needlessO
end
end LP
/-! P12: plain: some numbers of ridges, told apart; the least key. -/
namespace LP
open PySem PySem.Spec PyProof.Rows L2 DL
theorem riseI_of : ∀ {l : List Int}, l.Pairwise (· < ·) → riseI l = true
  | [], _ => rfl
  | [x], _ => rfl
  | x :: y :: r, h => by
    obtain ⟨h1, h2⟩ := List.pairwise_cons.mp h
    have ih := riseI_of h2
    unfold riseI at ih ⊢
    simp only [List.drop_succ_cons, List.drop_zero, List.zip_cons_cons, List.all_cons, Bool.and_eq_true, decide_eq_true_eq] at ih ⊢
    exact ⟨h1 y List.mem_cons_self, ih⟩
theorem wholes_ints {m : Nat} {l : List Int} (h : ∀ n ∈ l, 0 ≤ n ∧ n < m) : wholesD m (intsD l) = true := by
  show (l.map PyData.int).all _ = true
  rw [List.all_eq_true]
  intro d hd
  obtain ⟨n, hn, rfl⟩ := List.mem_map.mp hd
  have := h n hn
  simp only [isWholeD, Bool.and_eq_true, decide_eq_true_eq]
  omega
theorem filter_ne1 {α : Type} [DecidableEq α] {l A B : List α} {x : α} (nd : l.Nodup) (e : l = A ++ x :: B) : l.filter (fun k => !decide (k = x)) = A ++ B := by
  subst e
  obtain ⟨_, n2, n3⟩ := List.nodup_append.mp nd
  rw [List.nodup_cons] at n2
  rw [List.filter_append, List.filter_cons_of_neg (by simp)]
  congr 1
  · exact List.filter_eq_self.mpr fun a ha => by
      have := n3 a ha x List.mem_cons_self
      simp [this]
  · exact List.filter_eq_self.mpr fun a ha => by
      have : a ≠ x := fun e => n2.1 (e ▸ ha)
      simp [this]
theorem rangeI_nd (m : Nat) : (rangeI m).Nodup := (rangeI_up m).imp fun h => Int.ne_of_lt h
theorem rangeI_succ (m : Nat) : rangeI (m + 1) = rangeI m ++ [(m : Int)] := by unfold rangeI; rw [List.range_succ, List.map_append]; rfl
theorem rangeI_get {m i : Nat} (h : i < m) : (rangeI m)[i]? = some (i : Int) := by unfold rangeI; rw [List.getElem?_map, List.getElem?_range h]; rfl
theorem rangeI_cut {m i : Nat} (h : i < m) : (rangeI m).take i ++ (rangeI m).drop (i + 1) = (rangeI m).filter fun k => !decide (k = (i : Int)) := by
  refine (filter_ne1 (rangeI_nd m) ?_).symm
  have h1 : (rangeI m).drop i = (i : Int) :: (rangeI m).drop (i + 1) := by
    rw [List.drop_eq_getElem?_toList_append, rangeI_get h]; rfl
  rw [← h1, List.take_append_drop]
theorem subS_all (s : Sh) : subS s (rangeI s.2.length) = s := by
  obtain ⟨V, Es⟩ := s
  unfold subS rangeI
  refine Prod.ext rfl ?_
  show ((List.range Es.length).map fun i : Nat => (i : Int)).map (rgAt (V, Es)) = Es
  rw [List.map_map]
  apply List.ext_getElem?
  intro i
  rw [List.getElem?_map]
  by_cases h : i < Es.length
  · rw [List.getElem?_range h, List.getElem?_eq_getElem h]
    show some (rgAt (V, Es) (i : Int)) = _
    unfold rgAt
    rw [Int.toNat_natCast, List.getElem?_eq_getElem h]; rfl
  · rw [show (List.range Es.length)[i]? = none from List.getElem?_eq_none (by rw [List.length_range]; omega), show Es[i]? = none from List.getElem?_eq_none (by omega)]; rfl
theorem tellB_all (s : Sh) : tellB s (rangeI s.2.length) = true := by
  unfold tellB
  rw [subS_all, List.all_eq_true]
  intro k _
  exact decide_eq_true rfl
section
variable {α : Type} [DecidableEq α] [PySem.W.DatumOrd α]
theorem lt_tlt (a b : α) : PySem.W.DatumOrd.lt a b = tlt a b := (PySem.W.DatumOrd.lt_eq a b).symm
theorem minOf_is {m : α} : ∀ (xs : List α) (x : α), m ∈ x :: xs → (∀ y ∈ x :: xs, tlt y m = false) → PySem.W.minOf x xs = m
  | [], x, h, _ => by rw [List.mem_singleton.mp h]; rfl
  | y :: r, x, h, hm => by
    show PySem.W.minOf (if PySem.W.DatumOrd.lt y x = true then y else x) r = m
    rw [lt_tlt]
    by_cases q : tlt y x = true
    · rw [if_pos q]
      refine minOf_is r y ?_ fun z hz => hm z (List.mem_cons_of_mem _ hz)
      rcases List.mem_cons.mp h with rfl | h
      · have := hm y (List.mem_cons_of_mem _ List.mem_cons_self)
        rw [q] at this; cases this
      · exact h
    · rw [if_neg q]
      refine minOf_is r x ?_ fun z hz => hm z (by rcases List.mem_cons.mp hz with rfl | hz <;> simp [*])
      rcases List.mem_cons.mp h with rfl | h
      · exact List.mem_cons_self
      · rcases List.mem_cons.mp h with rfl | h
        · have h1 := hm x List.mem_cons_self
          have h2 : tlt m x = false := by simpa using q
          rw [tlt_anti h1 h2]; exact List.mem_cons_self
        · exact List.mem_cons_of_mem _ h
end
theorem lay_ints : ∀ l : List Int, PyData.canLayAll0 (l.map .int) = true
  | [] => rfl
  | _ :: r => by rw [List.map_cons, PyData.canLayAll0, lay_ints r]; rfl
theorem lay_keys : ∀ ks : List LT, PyData.canLayAll0 (ks.map toD) = true
  | [] => rfl
  | ⟨n, ⟨l⟩⟩ :: r => by
    rw [List.map_cons, PyData.canLayAll0, lay_keys r]
    show (PyData.canLayAll0 [.int n, .tuple (l.map .int)] && true) = true
    have : PyData.canLay0 (.tuple (l.map .int)) = true := by
      show PyData.canLayAll0 (l.map .int) = true
      exact lay_ints l
    rw [PyData.canLayAll0, PyData.canLayAll0, this]; rfl
/-- what refuses -/
def badT (m : Nat) : List D := [.none, .int 5, .list [.int 0], .tuple [.int (m : Int)], .tuple [.int (-1)], .tuple [.int 1, .int 0], .tuple [.int 0, .int 0], .tuple [.bool true], .tuple [.str "bay"]]
theorem badT_no (m : Nat) : ∀ d ∈ badT m, ¬ (wholesD m d = true ∧ riseI (cntOf d) = true) ∧ ∀ xs, d = .tuple xs → xs.length ≤ 1000 := by
  intro d hd
  simp only [badT, List.mem_cons, List.not_mem_nil, or_false] at hd
  constructor
  · rintro ⟨h1, h2⟩
    rcases hd with rfl | rfl | rfl | rfl | rfl | rfl | rfl | rfl | rfl
    · cases h1
    · cases h1
    · cases h1
    · have : ((decide ((0 : Int) ≤ (m : Int)) && decide ((m : Int) ≤ (m : Int) - 1)) && true) = true := h1
      rw [decide_eq_false (by omega : ¬ (m : Int) ≤ (m : Int) - 1), Bool.and_false] at this; cases this
    · cases h1
    · cases h2
    · cases h2
    · cases h1
    · cases h1
  · intro xs e
    rcases hd with rfl | rfl | rfl | rfl | rfl | rfl | rfl | rfl | rfl <;> first | (cases e; done) | (cases e; exact Nat.le_of_ble_eq_true rfl)
end LP
/-! P13: plain: ways in a forest. -/
namespace LP
open PySem PySem.Spec PyProof.Rows L2 DL
def thereOf (one : Str) (r : Rg) : Option Str := if r.1 = one then some r.2.1 else if r.2.1 = one then some r.1 else none
def wayF (E : List Rg) : Nat → Str → Str → List Str → Option (List Str)
  | 0, one, other, _ => if one = other then some [one] else none
  | n + 1, one, other, seen => if one = other then some [one] else E.findSome? fun r => match thereOf one r with
    | some t => if t ∈ seen then none else (wayF E n t other (seen ++ [t])).map (one :: ·)
    | none => none
/-- next to one another -/
def Ch (R : Str → Str → Prop) : List Str → Prop
  | x :: y :: l => R x y ∧ Ch R (y :: l)
  | _ => True
structure SP (R : Str → Str → Prop) (x y : Str) (l : List Str) : Prop where
  hd : l.head? = some x
  last : l.getLast? = some y
  nd : l.Nodup
  ch : Ch R l
def AdjK (E : List Rg) (k : Int) (x y : Str) : Prop := ∃ c, c ≤ k ∧ ((x, y, c) ∈ E ∨ (y, x, c) ∈ E)
def Adj (E : List Rg) (x y : Str) : Prop := ∃ c, (x, y, c) ∈ E ∨ (y, x, c) ∈ E
theorem AdjK.adj {E : List Rg} {k : Int} {x y : Str} (h : AdjK E k x y) : Adj E x y := let ⟨c, _, h⟩ := h; ⟨c, h⟩
theorem Adj.symm {E : List Rg} {x y : Str} (h : Adj E x y) : Adj E y x := let ⟨c, h⟩ := h; ⟨c, h.symm⟩
theorem AdjK.symm {E : List Rg} {k : Int} {x y : Str} (h : AdjK E k x y) : AdjK E k y x := let ⟨c, h1, h⟩ := h; ⟨c, h1, h.symm⟩
section
variable {R S : Str → Str → Prop} {x y z : Str} {l A B : List Str}
theorem Ch.imp (hi : ∀ x y, R x y → S x y) : ∀ {l : List Str}, Ch R l → Ch S l
  | [], _ => trivial
  | [_], _ => trivial
  | x :: y :: l, h => ⟨hi _ _ h.1, Ch.imp hi (l := y :: l) h.2⟩
theorem Ch.tail : ∀ {x : Str} {l : List Str}, Ch R (x :: l) → Ch R l
  | _, [], _ => trivial
  | _, _ :: _, h => h.2
theorem Ch.right : ∀ {A B : List Str}, Ch R (A ++ B) → Ch R B
  | [], _, h => h
  | x :: A, B, h => Ch.right (A := A) (Ch.tail h)
theorem Ch.app : ∀ {A B : List Str}, Ch R A → Ch R B → (∀ u v, A.getLast? = some u → B.head? = some v → R u v) → Ch R (A ++ B)
  | [], B, _, h, _ => h
  | [x], [], _, _, _ => trivial
  | [x], y :: B, _, h, hr => ⟨hr x y rfl rfl, h⟩
  | x :: y :: A, B, h1, h2, hr => ⟨h1.1, Ch.app (A := y :: A) h1.2 h2 fun u v hu hv => hr u v (by rw [List.getLast?_cons_cons]; exact hu) hv⟩
theorem Ch.rev (hs : ∀ x y, R x y → R y x) : ∀ {l : List Str}, Ch R l → Ch R l.reverse
  | [], _ => trivial
  | x :: l, h => by
    rw [List.reverse_cons]
    refine Ch.app (Ch.rev hs (Ch.tail h)) trivial fun u v hu hv => ?_
    cases hv
    rw [List.getLast?_reverse] at hu
    cases l with
    | nil => cases hu
    | cons y l => cases hu; exact hs _ _ h.1
theorem SP.rev (hs : ∀ x y, R x y → R y x) (h : SP R x y l) : SP R y x l.reverse := ⟨by rw [List.head?_reverse]; exact h.last, by rw [List.getLast?_reverse]; exact h.hd, (List.reverse_perm l).nodup_iff.mpr h.nd, h.ch.rev hs⟩
theorem SP.imp (hi : ∀ x y, R x y → S x y) (h : SP R x y l) : SP S x y l := ⟨h.hd, h.last, h.nd, h.ch.imp hi⟩
theorem SP.self (R : Str → Str → Prop) (x : Str) : SP R x x [x] := ⟨rfl, rfl, by simp, trivial⟩
theorem SP.cons_ (h : SP R x y l) : ∃ r, l = x :: r := by
  cases l with
  | nil => cases h.hd
  | cons a r => cases h.hd; exact ⟨r, rfl⟩
theorem SP.at_ (h : SP R x x l) : l = [x] := by
  obtain ⟨r, rfl⟩ := h.cons_
  cases r with
  | nil => rfl
  | cons b r =>
    have h1 := h.last
    rw [List.getLast?_cons_cons] at h1
    have := (List.nodup_cons.mp h.nd).1
    exact absurd (List.mem_of_getLast? h1) this
end
/-! ### what wayF finds -/
theorem there_adj {E : List Rg} {one t : Str} {r : Rg} (hr : r ∈ E) (h : thereOf one r = some t) : Adj E one t := by
  obtain ⟨a, b, c⟩ := r
  unfold thereOf at h
  dsimp only at h
  by_cases h1 : a = one
  · rw [if_pos h1] at h; cases h; exact ⟨c, .inl (h1 ▸ hr)⟩
  · rw [if_neg h1] at h
    by_cases h2 : b = one
    · rw [if_pos h2] at h; cases h; exact ⟨c, .inr (h2 ▸ hr)⟩
    · rw [if_neg h2] at h; cases h
theorem adj_there {E : List Rg} {one t : Str} (h : Adj E one t) (ne : t ≠ one) : ∃ r ∈ E, thereOf one r = some t := by
  obtain ⟨c, h | h⟩ := h
  · exact ⟨_, h, if_pos rfl⟩
  · exact ⟨_, h, by unfold thereOf; rw [if_neg ne, if_pos rfl]⟩
theorem way_sound (E : List Rg) : ∀ (n : Nat) (x y : Str) (seen l : List Str), x ∈ seen → wayF E n x y seen = some l → SP (Adj E) x y l ∧ ∃ r, l = x :: r ∧ ∀ z ∈ r, z ∉ seen := by
  intro n
  induction n with
  | zero =>
    intro x y seen l hx h
    unfold wayF at h
    by_cases e : x = y
    · rw [if_pos e] at h; cases h; subst e; exact ⟨SP.self _ x, [], rfl, fun z hz => nomatch hz⟩
    · rw [if_neg e] at h; cases h
  | succ n ih =>
    intro x y seen l hx h
    unfold wayF at h
    by_cases e : x = y
    · rw [if_pos e] at h; cases h; subst e; exact ⟨SP.self _ x, [], rfl, fun z hz => nomatch hz⟩
    · rw [if_neg e] at h
      obtain ⟨r0, hr0, h⟩ := List.exists_of_findSome?_eq_some h
      cases ht : thereOf x r0 with
      | none => rw [ht] at h; cases h
      | some t =>
        rw [ht] at h
        dsimp only at h
        by_cases hs : t ∈ seen
        · rw [if_pos hs] at h; cases h
        · rw [if_neg hs] at h
          obtain ⟨l', hl', e'⟩ := Option.map_eq_some_iff.mp h
          subst e'
          obtain ⟨sp, r, rfl, hr⟩ := ih t y (seen ++ [t]) l' (by simp) hl'
          have hz : ∀ z ∈ t :: r, z ∉ seen := fun z hz => by
            rcases List.mem_cons.mp hz with rfl | hz
            · exact hs
            · exact fun q => hr z hz (List.mem_append_left _ q)
          exact ⟨⟨rfl, by rw [List.getLast?_cons_cons]; exact sp.last, List.nodup_cons.mpr ⟨fun q => hz x q hx, sp.nd⟩, there_adj hr0 ht, sp.ch⟩, t :: r, rfl, hz⟩
theorem way_complete (E : List Rg) : ∀ (r : List Str) (n : Nat) (x y : Str) (seen : List Str), SP (Adj E) x y (x :: r) → (∀ z ∈ r, z ∉ seen) → r.length ≤ n → wayF E n x y seen ≠ none := by
  intro r
  induction r with
  | nil =>
    intro n x y seen sp _ _
    have : x = y := Option.some.inj sp.last
    cases n <;> (unfold wayF; rw [if_pos this]; intro h; cases h)
  | cons t r ih =>
    intro n x y seen sp hz hl
    cases n with
    | zero => simp at hl
    | succ n =>
      unfold wayF
      by_cases e : x = y
      · rw [if_pos e]; intro h; cases h
      · rw [if_neg e]
        intro h
        rw [List.findSome?_eq_none_iff] at h
        have nd := List.nodup_cons.mp sp.nd
        have ne : t ≠ x := fun q => nd.1 (by rw [q]; exact List.mem_cons_self)
        obtain ⟨r0, hr0, ht⟩ := adj_there sp.ch.1 ne
        have h := h r0 hr0
        rw [ht] at h
        dsimp only at h
        rw [if_neg (hz t List.mem_cons_self), Option.map_eq_none_iff] at h
        refine ih n t y (seen ++ [t]) ⟨rfl, by have := sp.last; rw [List.getLast?_cons_cons] at this; exact this, nd.2, sp.ch.2⟩ (fun z hzr q => ?_) (by simpa using hl) h
        rcases List.mem_append.mp q with q | q
        · exact hz z (List.mem_cons_of_mem _ hzr) q
        · rw [List.mem_singleton.mp q] at hzr
          exact (List.nodup_cons.mp nd.2).1 hzr
/-! ### joined, and a way -/
theorem conn_sp {V : List Str} {E : List Rg} {k : Int} {x y : Str} (c : Conn (V, E) k x y) : ∃ P, SP (AdjK E k) y x P := by
  have step : ∀ {a b : Str} {P : List Str}, SP (AdjK E k) a x P → AdjK E k b a → ∃ P, SP (AdjK E k) b x P := fun {a b P} sp ad => by
    by_cases hb : b ∈ P
    · obtain ⟨P1, P2, e⟩ := List.append_of_mem hb
      have sp2 := e ▸ sp
      refine ⟨b :: P2, rfl, ?_, (List.nodup_append.mp sp2.nd).2.1, Ch.right sp2.ch⟩
      have := sp2.last
      rw [List.getLast?_append] at this
      cases q : (b :: P2).getLast? with
      | none => simp at q
      | some w => rw [q] at this; simpa using this
    · obtain ⟨r, rfl⟩ := sp.cons_
      exact ⟨b :: a :: r, rfl, by rw [List.getLast?_cons_cons]; exact sp.last, List.nodup_cons.mpr ⟨hb, sp.nd⟩, ad, sp.ch⟩
  induction c with
  | refl => exact ⟨[x], SP.self _ x⟩
  | fwd _ hm hh ih =>
    obtain ⟨P, sp⟩ := ih
    exact step sp ⟨_, hh, .inr hm⟩
  | bwd _ hm hh ih =>
    obtain ⟨P, sp⟩ := ih
    exact step sp ⟨_, hh, .inl hm⟩
theorem ch_conn {V : List Str} {E : List Rg} {k : Int} {y : Str} : ∀ {l : List Str} {x : Str}, Ch (AdjK E k) (x :: l) → (x :: l).getLast? = some y → Conn (V, E) k x y
  | [], x, _, h => by cases h; exact .refl _
  | z :: l, x, hc, h => by
    rw [List.getLast?_cons_cons] at h
    have ih := ch_conn (V := V) hc.2 h
    obtain ⟨c, hk, hm | hm⟩ := hc.1
    · exact (conn_edge hm hk).trans ih
    · exact (conn_edge hm hk).symm.trans ih
theorem sp_conn {V : List Str} {E : List Rg} {k : Int} {x y : Str} {l : List Str} (h : SP (AdjK E k) x y l) : Conn (V, E) k x y := by
  obtain ⟨r, rfl⟩ := h.cons_
  exact ch_conn h.ch h.last
/-- at some height -/
def C (E : List Rg) (x y : Str) : Prop := ∃ h, Conn ([], E) h x y
theorem C.symm {E : List Rg} {x y : Str} (c : C E x y) : C E y x := let ⟨h, c⟩ := c; ⟨h, c.symm⟩
theorem C.trans {E : List Rg} {x y z : Str} (c : C E x y) (d : C E y z) : C E x z := by
  obtain ⟨h, c⟩ := c
  obtain ⟨k, d⟩ := d
  exact ⟨max h k, (conn_up (Int.le_max_left h k) c).trans (conn_up (Int.le_max_right h k) d)⟩
theorem ch_C {E : List Rg} {y : Str} : ∀ {l : List Str} {x : Str}, Ch (Adj E) (x :: l) → (x :: l).getLast? = some y → C E x y
  | [], x, _, h => by cases h; exact ⟨0, .refl _⟩
  | z :: l, x, hc, h => by
    rw [List.getLast?_cons_cons] at h
    have ih := ch_C hc.2 h
    obtain ⟨c, hm | hm⟩ := hc.1
    · exact C.trans ⟨c, conn_edge hm (Int.le_refl c)⟩ ih
    · exact C.trans (C.symm ⟨c, conn_edge hm (Int.le_refl c)⟩) ih
theorem walk_C {E : List Rg} {x y : Str} {l : List Str} (h1 : l.head? = some x) (h2 : l.getLast? = some y) (h3 : Ch (Adj E) l) : C E x y := by
  cases l with
  | nil => cases h1
  | cons a r => cases h1; exact ch_C h3 h2
/-! ### a forest -/
inductive Fo : List Rg → Prop
  | nil : Fo []
  | snoc {E : List Rg} {a b : Str} {c : Int} : Fo E → ¬ C E a b → Fo (E ++ [(a, b, c)])
theorem ch_split {E : List Rg} {a b : Str} {c : Int} : ∀ {P : List Str}, P.Nodup → Ch (Adj (E ++ [(a, b, c)])) P → Ch (Adj E) P ∨ ∃ P1 P2 u v, P = P1 ++ P2 ∧ P1.getLast? = some u ∧ P2.head? = some v ∧ ((u = a ∧ v = b) ∨ (u = b ∧ v = a)) ∧ Ch (Adj E) P1 ∧ Ch (Adj E) P2
  | [], _, _ => .inl trivial
  | [x], _, _ => .inl trivial
  | x :: y :: l, nd, h => by
    have nd2 := List.nodup_cons.mp nd
    have ih := ch_split (E := E) (a := a) (b := b) (c := c) (P := y :: l) nd2.2 h.2
    have hxy : Adj E x y ∨ (x = a ∧ y = b) ∨ (x = b ∧ y = a) := by
      obtain ⟨d, hm | hm⟩ := h.1
      · rcases List.mem_append.mp hm with hm | hm
        · exact .inl ⟨d, .inl hm⟩
        · cases List.mem_singleton.mp hm; exact .inr (.inl ⟨rfl, rfl⟩)
      · rcases List.mem_append.mp hm with hm | hm
        · exact .inl ⟨d, .inr hm⟩
        · cases List.mem_singleton.mp hm; exact .inr (.inr ⟨rfl, rfl⟩)
    rcases hxy with hxy | hnew
    · rcases ih with ih | ⟨P1, P2, u, v, e, h1, h2, h3, h4, h5⟩
      · exact .inl ⟨hxy, ih⟩
      · refine .inr ⟨x :: P1, P2, u, v, by rw [e]; rfl, ?_, h2, h3, ?_, h5⟩
        · cases P1 with
          | nil => cases h1
          | cons z P1 => rw [List.getLast?_cons_cons]; exact h1
        · cases P1 with
          | nil => cases h1
          | cons z P1 =>
            rw [List.cons_append] at e
            injection e with e1 _
            subst e1
            exact ⟨hxy, h4⟩
    · rcases ih with ih | ⟨P1, P2, u, v, e, h1, h2, h3, h4, h5⟩
      · exact .inr ⟨[x], y :: l, x, y, rfl, rfl, rfl, hnew, trivial, ih⟩
      · exfalso
        have hu : u ∈ y :: l := by rw [e]; exact List.mem_append_left _ (List.mem_of_getLast? h1)
        have hv : v ∈ y :: l := by rw [e]; exact List.mem_append_right _ (List.mem_of_mem_head? h2)
        apply nd2.1
        rcases hnew with ⟨e1, e2⟩ | ⟨e1, e2⟩ <;> rcases h3 with ⟨e3, e4⟩ | ⟨e3, e4⟩ <;> subst e3 e4 <;> rw [e1] <;> assumption
theorem way_uniq {E : List Rg} (F : Fo E) : ∀ {x y : Str} {P Q : List Str}, SP (Adj E) x y P → SP (Adj E) x y Q → P = Q := by
  induction F with
  | nil =>
    have one : ∀ {x y : Str} {P : List Str}, SP (Adj []) x y P → P = [x] := fun {x y P} sp => by
      obtain ⟨r, rfl⟩ := sp.cons_
      cases r with
      | nil => rfl
      | cons z r => obtain ⟨d, h | h⟩ := sp.ch.1 <;> cases h
    intro x y P Q hp hq
    rw [one hp, one hq]
  | @snoc E a b c F nc ih =>
    have parts : ∀ {x y : Str} {P P1 P2 : List Str} {u v : Str}, SP (Adj (E ++ [(a, b, c)])) x y P → P = P1 ++ P2 → P1.getLast? = some u → P2.head? = some v → Ch (Adj E) P1 → Ch (Adj E) P2 → SP (Adj E) x u P1 ∧ SP (Adj E) v y P2 := fun {x y P P1 P2 u v} sp e h1 h2 h3 h4 => by
      subst e
      have nd := List.nodup_append.mp sp.nd
      refine ⟨⟨?_, h1, nd.1, h3⟩, h2, ?_, nd.2.1, h4⟩
      · have := sp.hd
        cases P1 with
        | nil => cases h1
        | cons z r => exact this
      · have := sp.last
        rw [List.getLast?_append] at this
        cases q : P2.getLast? with
        | none => rw [List.getLast?_eq_none_iff] at q; subst q; cases h2
        | some w => rw [q] at this; simpa using this
    have two : ∀ {x y : Str} {P Q : List Str}, SP (Adj (E ++ [(a, b, c)])) x y P → SP (Adj (E ++ [(a, b, c)])) x y Q → Ch (Adj E) P → ¬ Ch (Adj E) Q → False := fun {x y P Q} hp hq cp cq => by
      rcases ch_split hq.nd hq.ch with q | ⟨Q1, Q2, u, v, e, h1, h2, h3, h4, h5⟩
      · exact cq q
      · obtain ⟨s1, s2⟩ := parts hq e h1 h2 h4 h5
        have w1 : C E x y := walk_C hp.hd hp.last cp
        have w2 : C E x u := walk_C s1.hd s1.last s1.ch
        have w3 : C E v y := walk_C s2.hd s2.last s2.ch
        have w : C E u v := (w2.symm.trans w1).trans w3.symm
        rcases h3 with ⟨rfl, rfl⟩ | ⟨rfl, rfl⟩
        · exact nc w
        · exact nc w.symm
    intro x y P Q hp hq
    rcases ch_split hp.nd hp.ch with cp | ⟨P1, P2, u, v, e, h1, h2, h3, h4, h5⟩
    · by_cases cq : Ch (Adj E) Q
      · exact ih ⟨hp.hd, hp.last, hp.nd, cp⟩ ⟨hq.hd, hq.last, hq.nd, cq⟩
      · exact (two hp hq cp cq).elim
    · rcases ch_split hq.nd hq.ch with cq | ⟨Q1, Q2, u', v', e', h1', h2', h3', h4', h5'⟩
      · by_cases cp : Ch (Adj E) P
        · exact ih ⟨hp.hd, hp.last, hp.nd, cp⟩ ⟨hq.hd, hq.last, hq.nd, cq⟩
        · exact (two hq hp cq cp).elim
      · obtain ⟨s1, s2⟩ := parts hp e h1 h2 h4 h5
        obtain ⟨t1, t2⟩ := parts hq e' h1' h2' h4' h5'
        have w1 : C E x u := walk_C s1.hd s1.last s1.ch
        have w2 : C E x u' := walk_C t1.hd t1.last t1.ch
        have w : C E u u' := w1.symm.trans w2
        have fin : u = u' → v = v' → P = Q := fun e1 e2 => by
          subst e1 e2
          rw [e, e', ih s1 t1, ih s2 t2]
        rcases h3 with ⟨rfl, rfl⟩ | ⟨rfl, rfl⟩ <;> rcases h3' with ⟨rfl, rfl⟩ | ⟨rfl, rfl⟩
        · exact fin rfl rfl
        · exact (nc w).elim
        · exact (nc w.symm).elim
        · exact fin rfl rfl
end LP
/-! P14: plain: the tree is a forest; the least tree is the tree; the way's heights. -/
namespace LP
open PySem PySem.Spec PyProof.Rows L2 DL
theorem conn_sub2 {s t : Sh} {h k : Int} (he : ∀ a b c, (a, b, c) ∈ s.2 → c ≤ h → Conn t k a b) {x y : Str} (c : Conn s h x y) : Conn t k x y := by
  induction c with
  | refl => exact .refl _
  | fwd _ hr hc ih => exact ih.trans (he _ _ _ hr hc)
  | bwd _ hr hc ih => exact ih.trans (he _ _ _ hr hc).symm
theorem conn_V {V W : List Str} {E : List Rg} {h : Int} {x y : Str} (c : Conn (V, E) h x y) : Conn (W, E) h x y := conn_mem (s := (V, E)) (t := (W, E)) (fun r hr => hr) c
theorem kr_app {s : Sh} : ∀ (A F B : List Int), kr s F (A ++ B) = kr s (kr s F A) B
  | [], F, B => rfl
  | n :: A, F, B => by
    show kr s F (n :: (A ++ B)) = _
    rw [kr, kr]
    by_cases q : ∃ h, Conn (subS s F) h (rgAt s n).1 (rgAt s n).2.1
    · rw [if_pos q, if_pos q]; exact kr_app A F B
    · rw [if_neg q, if_neg q]; exact kr_app A (F ++ [n]) B
theorem kr_fo {s : Sh} : ∀ (Q F : List Int), Fo (F.map (rgAt s)) → Fo ((kr s F Q).map (rgAt s))
  | [], F, h => h
  | n :: Q, F, h => by
    unfold kr
    split
    · exact kr_fo Q F h
    · rename_i q
      refine kr_fo Q (F ++ [n]) ?_
      rw [List.map_append]
      exact .snoc (a := (rgAt s n).1) (b := (rgAt s n).2.1) (c := (rgAt s n).2.2) h fun ⟨h, c⟩ => q ⟨h, conn_V c⟩
theorem tree_fo (s : Sh) : Fo ((treeL s).map (rgAt s)) := kr_fo _ _ .nil
/-- what is rejected is joined by what came before -/
theorem tree_rej {s : Sh} {n : Int} (hn : 0 ≤ n ∧ n < s.2.length) (h : n ∉ treeL s) : ∃ k, Conn (s.1, ((treeL s).filter fun m => decide ((rgAt s m).2.2 < (rgAt s n).2.2 ∨ ((rgAt s m).2.2 = (rgAt s n).2.2 ∧ m < n))).map (rgAt s)) k (rgAt s n).1 (rgAt s n).2.1 := by
  have hq := ordQ_mem.mpr hn
  obtain ⟨p, hp, e⟩ := List.mem_map.mp (show n ∈ (tsort (hiNo s)).map (·.2) from hq)
  obtain ⟨A, B, eAB⟩ := List.append_of_mem hp
  have eQ : ordQ s = A.map (·.2) ++ n :: B.map (·.2) := by unfold ordQ; rw [eAB, List.map_append, List.map_cons, e]
  have eT : treeL s = kr s (kr s [] (A.map (·.2))) (n :: B.map (·.2)) := by unfold treeL; rw [eQ, kr_app]
  have pw := tsort_pw (hiNo s)
  rw [eAB] at pw
  have nd : (ordQ s).Nodup := (ordQ_perm s).nodup_iff.mpr ((rangeI_up _).imp fun h => Int.ne_of_lt h)
  rw [eQ] at nd
  unfold kr at eT
  split at eT
  · rename_i q
    obtain ⟨k, c⟩ := q
    refine ⟨k, conn_mem (fun r hr => ?_) c⟩
    obtain ⟨m, hm, rfl⟩ := List.mem_map.mp hr
    have hmA : m ∈ A.map (·.2) := by
      rcases (kr_sub (s := s) (A.map (·.2)) []).2.1 m hm with q | q
      · cases q
      · exact q
    refine List.mem_map.mpr ⟨m, List.mem_filter.mpr ⟨?_, decide_eq_true ?_⟩, rfl⟩
    · rw [eT]; exact (kr_sub (s := s) _ _).1 m hm
    · obtain ⟨p', hp', e'⟩ := List.mem_map.mp hmA
      have h1 := (List.pairwise_append.mp pw).2.2 p' hp' p List.mem_cons_self
      have hi1 := (hiNo_at (tsort_mem.mp hp)).1
      have hi2 := (hiNo_at (tsort_mem.mp (show p' ∈ tsort (hiNo s) by rw [eAB]; exact List.mem_append_left _ hp'))).1
      have hne : m ≠ n := (List.nodup_append.mp nd).2.2 m hmA n List.mem_cons_self
      obtain ⟨p1, p2⟩ := p
      obtain ⟨q1, q2⟩ := p'
      dsimp only at e e' hi1 hi2
      subst e e'
      rw [tlt_ii, decide_eq_false_iff_not] at h1
      rw [← hi1, ← hi2]
      omega
  · exfalso
    apply h
    rw [eT]
    exact (kr_sub (s := s) _ _).1 n (by simp)
theorem up_first : ∀ {l T : List Int}, l.Pairwise (· < ·) → T.Pairwise (· < ·) → l < T → l.length = T.length → ∃ n ∈ l, n ∉ T ∧ ∀ m ∈ T, m < n → m ∈ l
  | [], [], _, _, h, _ => absurd h (List.lt_irrefl _)
  | [], _ :: _, _, _, _, hl => by simp at hl
  | _ :: _, [], _, _, _, hl => by simp at hl
  | a :: l, b :: T, hl, hT, h, he => by
    obtain ⟨l1, l2⟩ := List.pairwise_cons.mp hl
    obtain ⟨t1, t2⟩ := List.pairwise_cons.mp hT
    rcases List.cons_lt_cons_iff.mp h with h9 | ⟨rfl, h9⟩
    · refine ⟨a, List.mem_cons_self, fun q => ?_, fun m hm hma => ?_⟩
      · rcases List.mem_cons.mp q with q | q
        · omega
        · have := t1 a q; omega
      · rcases List.mem_cons.mp hm with q | q
        · omega
        · have := t1 m q; omega
    · obtain ⟨n, hn, h1, h2⟩ := up_first l2 t2 h9 (by simpa using he)
      have han := l1 n hn
      refine ⟨n, List.mem_cons_of_mem _ hn, fun q => ?_, fun m hm hmn => ?_⟩
      · rcases List.mem_cons.mp q with q | q
        · omega
        · exact h1 q
      · rcases List.mem_cons.mp hm with q | q
        · rw [q]; exact List.mem_cons_self
        · exact List.mem_cons_of_mem _ (h2 m q hmn)
theorem least_tree_eq {s : Sh} (g : Good s) (ht : ∀ r ∈ s.2, 1 ≤ r.2.2 ∧ r.2.2 ≤ 9) : leastL s = treeS s := by
  obtain ⟨_, LO⟩ := least_ok g fun r hr => (ht r hr).2
  have hl := sub_in LO.sub
  have lup : (leastL s).Pairwise (· < ·) := (rangeI_up _).sublist LO.sub
  have hR : InR s (treeS s) := fun n hn => tree_in s n (treeS_mem.mp hn)
  have tsub := up_sub (treeS_up s) hR
  have hle := LO.least (treeS s) tsub (treeS_tells g)
  have elen : (leastL s).length = (treeS s).length := by rw [LO.len, treeS_len]
  by_cases e : leastL s = treeS s
  · exact e
  exfalso
  have hlt : leastL s < treeS s := by
    rcases tlt_tri (keyT (leastL s)) (keyT (treeS s)) with h | h | h
    · rcases tlt_keyT.mp h with h | ⟨_, h⟩
      · omega
      · exact h
    · exact absurd (congrArg (fun z : LT => z.2.items) h) e
    · rw [h] at hle; cases hle
  obtain ⟨n, hn, hnT, hmin⟩ := up_first lup (treeS_up s) hlt elen
  have hnR := hl.1 n hn
  obtain ⟨k0, c0⟩ := tree_rej hnR (fun q => hnT (treeS_mem.mpr q))
  have T1 := (tell_iff g hl.1 (Nat.le_trans hl.2 g.ten)).mp LO.tells
  obtain ⟨l', hl'⟩ : ∃ l', (leastL s).filter (fun m => !decide (m = n)) = l' := ⟨_, rfl⟩
  have mem' : ∀ m, m ∈ l' ↔ m ∈ leastL s ∧ m ≠ n := fun m => by rw [← hl', List.mem_filter]; simp
  have sub' : l'.Sublist (rangeI s.2.length) := (hl' ▸ List.filter_sublist).trans LO.sub
  have hl2 := sub_in sub'
  have len' : l'.length < (leastL s).length := by
    rw [← hl']
    obtain ⟨A, B, eAB⟩ := List.append_of_mem hn
    have nd : (leastL s).Nodup := lup.imp fun h => Int.ne_of_lt h
    rw [filter_ne1 nd eAB, eAB, List.length_append, List.length_append, List.length_cons]; omega
  have key : ∀ k, (rgAt s n).2.2 ≤ k → Conn (subS s l') k (rgAt s n).1 (rgAt s n).2.1 := fun k hk => by
    refine conn_sub2 (fun a b c hm _ => ?_) c0
    obtain ⟨m, hm, em⟩ := List.mem_map.mp hm
    obtain ⟨hmT, hmo⟩ := List.mem_filter.mp hm
    have hmo := of_decide_eq_true hmo
    have hmR := tree_in s m hmT
    have em1 : (rgAt s m).1 = a := by rw [em]
    have em2 : (rgAt s m).2.1 = b := by rw [em]
    by_cases hml : m ∈ l'
    · rw [← em1, ← em2]
      exact conn_edge (c := (rgAt s m).2.2) (List.mem_map.mpr ⟨m, hml, rfl⟩) (by rcases hmo with q | ⟨q, _⟩ <;> omega)
    · have hlow : (rgAt s m).2.2 < (rgAt s n).2.2 := by
        rcases hmo with q | ⟨_, q⟩
        · exact q
        · exact absurd ((mem' m).mpr ⟨hmin m (treeS_mem.mpr hmT) q, by omega⟩) hml
      have hb := ht _ (rgAt_mem hmR)
      have hends := g.ends _ (rgAt_mem hmR)
      have cs : Conn s (rgAt s m).2.2 (rgAt s m).1 (rgAt s m).2.1 := conn_edge (c := (rgAt s m).2.2) (rgAt_mem hmR) (Int.le_refl _)
      have ek : (((rgAt s m).2.2.toNat : Nat) : Int) = (rgAt s m).2.2 := by omega
      have cl := (T1 (rgAt s m).2.2.toNat (by omega) _ hends.1 _ hends.2).mpr (by rw [ek]; exact cs)
      rw [ek] at cl
      rw [← em1, ← em2]
      refine conn_sub2 (fun a' b' c' hm' hc' => ?_) cl
      obtain ⟨q, hq, eq⟩ := List.mem_map.mp hm'
      have hqn : q ≠ n := fun z => by
        subst z
        rw [eq] at hlow
        dsimp only at hlow
        omega
      exact conn_edge (c := c') (List.mem_map.mpr ⟨q, (mem' q).mpr ⟨hq, hqn⟩, eq⟩) (by omega)
  have tells' : tellB s l' = true := by
    rw [tell_iff g hl2.1 (Nat.le_trans hl2.2 g.ten)]
    intro k hk p hp q hq
    refine ⟨fun c => conn_mem (fun r hr => subS_mem hl2.1 r hr) c, fun c => ?_⟩
    have c2 := (T1 k hk p hp q hq).mpr c
    refine conn_sub (fun a b c hm hc => ?_) c2
    obtain ⟨m, hm, em⟩ := List.mem_map.mp hm
    by_cases hmn : m = n
    · subst hmn
      have := key (k : Int) (by rw [em]; exact hc)
      rw [em] at this
      exact this
    · exact conn_edge (c := c) (List.mem_map.mpr ⟨m, (mem' m).mpr ⟨hm, hmn⟩, em⟩) hc
  have b1 := tell_len g hl2.1 (Nat.le_trans hl2.2 g.ten) tells'
  have b2 := tree_len g fun r hr => (ht r hr).2
  have b3 := LO.len
  omega
/-! ### the way in the tree -/
noncomputable abbrev treeE (s : Sh) : List Rg := (treeS s).map (rgAt s)
theorem treeE_mem {s : Sh} {r : Rg} : r ∈ treeE s ↔ r ∈ (treeL s).map (rgAt s) := by
  constructor
  · intro h
    obtain ⟨n, hn, e⟩ := List.mem_map.mp h
    exact List.mem_map.mpr ⟨n, treeS_mem.mp hn, e⟩
  · intro h
    obtain ⟨n, hn, e⟩ := List.mem_map.mp h
    exact List.mem_map.mpr ⟨n, treeS_mem.mpr hn, e⟩
theorem treeE_sub {s : Sh} {r : Rg} (h : r ∈ treeE s) : r ∈ s.2 := by
  obtain ⟨n, hn, rfl⟩ := List.mem_map.mp h
  exact rgAt_mem (tree_in s n (treeS_mem.mp hn))
theorem treeE_adj {s : Sh} {x y : Str} : Adj (treeE s) x y ↔ Adj ((treeL s).map (rgAt s)) x y := ⟨fun ⟨c, h⟩ => ⟨c, h.imp treeE_mem.mp treeE_mem.mp⟩, fun ⟨c, h⟩ => ⟨c, h.imp treeE_mem.mpr treeE_mem.mpr⟩⟩
theorem treeE_uniq {s : Sh} {x y : Str} {P Q : List Str} (hp : SP (Adj (treeE s)) x y P) (hq : SP (Adj (treeE s)) x y Q) : P = Q := way_uniq (tree_fo s) (hp.imp fun _ _ h => treeE_adj.mp h) (hq.imp fun _ _ h => treeE_adj.mp h)
theorem treeE_conn {s : Sh} {k : Int} {x y : Str} : Conn (s.1, treeE s) k x y ↔ Conn s k x y := by
  rw [← tree_conn s k x y]
  exact ⟨fun c => conn_mem (fun r hr => treeE_mem.mp hr) c, fun c => conn_mem (fun r hr => treeE_mem.mpr hr) c⟩
noncomputable def wayS (s : Sh) (x y : Str) : Option (List Str) := wayF (treeE s) (s.1.length - 1) x y [x]
theorem way_sp {s : Sh} {x y : Str} {l : List Str} (h : wayS s x y = some l) : SP (Adj (treeE s)) x y l := (way_sound _ _ _ _ _ _ (by simp) h).1
theorem sp_in {s : Sh} (g : Good s) {x y : Str} {l : List Str} (hx : x ∈ s.1) (sp : SP (Adj (treeE s)) x y l) : ∀ z ∈ l, z ∈ s.1 := by
  have all : ∀ {l : List Str}, Ch (Adj (treeE s)) l → (∀ x, l.head? = some x → x ∈ s.1) → ∀ z ∈ l, z ∈ s.1 := by
    intro l
    induction l with
    | nil => intro _ _ z hz; cases hz
    | cons a r ih =>
      intro hc hh z hz
      rcases List.mem_cons.mp hz with rfl | hz
      · exact hh z rfl
      · refine ih (Ch.tail hc) (fun b hb => ?_) z hz
        cases r with
        | nil => cases hb
        | cons b' r =>
          cases hb
          obtain ⟨c, hm | hm⟩ := hc.1
          · exact (g.ends _ (treeE_sub hm)).2
          · exact (g.ends _ (treeE_sub hm)).1
  refine all sp.ch fun z hz => ?_
  rw [sp.hd] at hz; cases hz; exact hx
theorem way_of_sp {s : Sh} (g : Good s) {x y : Str} {l : List Str} (hx : x ∈ s.1) (sp : SP (Adj (treeE s)) x y l) : wayS s x y = some l := by
  cases h : wayS s x y with
  | some l' => rw [treeE_uniq (way_sp h) sp]
  | none =>
    exfalso
    obtain ⟨r, rfl⟩ := sp.cons_
    have nd := List.nodup_cons.mp sp.nd
    refine way_complete _ r _ _ _ [x] sp (fun z hz q => ?_) ?_ h
    · rw [List.mem_singleton.mp q] at hz; exact nd.1 hz
    · have := nodup_len sp.nd (fun z hz => sp_in g hx sp z hz)
      rw [List.length_cons] at this
      omega
theorem way_rev {s : Sh} (g : Good s) {x y : Str} {l : List Str} (hx : x ∈ s.1) (h : wayS s x y = some l) : wayS s y x = some l.reverse := by
  have sp := way_sp h
  exact way_of_sp g (sp_in g hx sp y (List.mem_of_getLast? sp.last)) (sp.rev fun _ _ h => h.symm)
/-- joined at k: just where the way is no higher -/
theorem way_conn {s : Sh} (g : Good s) {x y : Str} {k : Int} (hx : x ∈ s.1) : Conn s k x y ↔ ∃ l, wayS s x y = some l ∧ Ch (AdjK (treeE s) k) l := by
  constructor
  · intro c
    obtain ⟨P, sp⟩ := conn_sp (treeE_conn.mpr c).symm
    exact ⟨P, way_of_sp g hx (sp.imp fun _ _ h => h.adj), sp.ch⟩
  · rintro ⟨l, h, hc⟩
    have sp := way_sp h
    exact treeE_conn.mp (sp_conn ⟨sp.hd, sp.last, sp.nd, hc⟩)
end LP
/-! S15: ways in the tree; the height that joins two pools. -/
namespace LP
open PySem PySem.Spec PyProof.Rows L2 DL
def wayD : Option (List Str) → D
  | none => .none
  | some l => .list (l.map .str)
def optS : Option Str → D
  | none => .none
  | some t => .str t
theorem wayD_none (o : Option (List Str)) : DL.isNone (wayD o) = o.isNone := by cases o <;> rfl
theorem way_len (E : List Rg) : ∀ (n : Nat) (x y : Str) (seen l : List Str), wayF E n x y seen = some l → l.length ≤ n + 1 := by
  intro n
  induction n with
  | zero =>
    intro x y seen l h
    unfold wayF at h
    by_cases e : x = y
    · rw [if_pos e] at h; cases h; exact Nat.le_refl _
    · rw [if_neg e] at h; cases h
  | succ n ih =>
    intro x y seen l h
    unfold wayF at h
    by_cases e : x = y
    · rw [if_pos e] at h; cases h; show 1 ≤ _; omega
    · rw [if_neg e] at h
      obtain ⟨r0, hr0, h⟩ := List.exists_of_findSome?_eq_some h
      cases ht : thereOf x r0 with
      | none => rw [ht] at h; cases h
      | some t =>
        rw [ht] at h
        dsimp only at h
        by_cases hs : t ∈ seen
        · rw [if_pos hs] at h; cases h
        · rw [if_neg hs] at h
          obtain ⟨l', hl', e'⟩ := Option.map_eq_some_iff.mp h
          subst e'
          have := ih _ _ _ _ hl'
          rw [List.length_cons]; omega
def stepF (E : List Rg) (n : Nat) (x y : Str) (seen : List Str) (r : Rg) : Option (List Str) := match thereOf x r with
  | some t => if t ∈ seen then none else (wayF E (n - 1) t y (seen ++ [t])).map (x :: ·)
  | none => none
structure WayOk (V : List Str) (E : List Rg) (n : Nat) (seen : List Str) : Prop where
  nd : V.Nodup
  six : V.length ≤ 6
  ends : ∀ r ∈ E, r.1 ∈ V ∧ r.2.1 ∈ V
  ten : E.length ≤ 10
  snd : seen.Nodup
  sV : ∀ z ∈ seen, z ∈ V
  fuel : V.length ≤ seen.length + n
  n6 : n ≤ 6
theorem WayOk.there {V : List Str} {E : List Rg} {n : Nat} {seen : List Str} (w : WayOk V E n seen) {x t : Str} {r : Rg} (hr : r ∈ E) (h : thereOf x r = some t) : t ∈ V := by
  unfold thereOf at h
  split at h
  · cases h; exact (w.ends r hr).2
  · split at h
    · cases h; exact (w.ends r hr).1
    · cases h
theorem WayOk.pos {V : List Str} {E : List Rg} {n : Nat} {seen : List Str} (w : WayOk V E n seen) {t : Str} (ht : t ∈ V) (hs : t ∉ seen) : n ≠ 0 := by
  rintro rfl
  have := nodup_len (List.nodup_cons.mpr ⟨hs, w.snd⟩) (ys := V) fun z hz => by
    rcases List.mem_cons.mp hz with rfl | hz
    · exact ht
    · exact w.sV z hz
  rw [List.length_cons] at this
  have := w.fuel
  omega
theorem WayOk.next {V : List Str} {E : List Rg} {n : Nat} {seen : List Str} (w : WayOk V E (n + 1) seen) {t : Str} (ht : t ∈ V) (hs : t ∉ seen) : WayOk V E n (seen ++ [t]) := ⟨w.nd, w.six, w.ends, w.ten, by
  refine List.nodup_append.mpr ⟨w.snd, by simp, fun a ha b hb => ?_⟩
  rw [List.mem_singleton.mp hb]
  rintro rfl
  exact hs ha, fun z hz => by
  rcases List.mem_append.mp hz with hz | hz
  · exact w.sV z hz
  · rw [List.mem_singleton.mp hz]; exact ht, by rw [List.length_append, List.length_singleton]; have := w.fuel; omega, by have := w.n6; omega⟩
theorem way_eq {V : List Str} {E : List Rg} {n : Nat} {x y : Str} {seen : List Str} (w : WayOk V E n seen) : wayF E n x y seen = if x = y then some [x] else E.findSome? (stepF E n x y seen) := by
  cases n with
  | succ n => rfl
  | zero =>
    unfold wayF
    by_cases e : x = y
    · rw [if_pos e, if_pos e]
    · rw [if_neg e, if_neg e]
      symm
      rw [List.findSome?_eq_none_iff]
      intro r hr
      unfold stepF
      cases ht : thereOf x r with
      | none => rfl
      | some t =>
        dsimp only
        by_cases hs : t ∈ seen
        · rw [if_pos hs]
        · exact absurd rfl (w.pos (w.there hr ht) hs)
section
variable {P : Program} {w : World} {K : PySem.W.Frag} {mg : Str → Option Value} {base : Heap}
abbrev spWay (n : Nat) (K : PySem.W.Frag) (mg : Str → Option Value) : Sp := spD K mg (α := List Str × List Rg × Str × Str × List Str) (fun a => [.tuple (a.2.1.map rgT), .str a.2.2.1, .str a.2.2.2.1, .list (a.2.2.2.2.map .str)]) (fun a => WayOk a.1 a.2.1 n a.2.2.2.2) (fun a => .ok (wayD (wayF a.2.1 n a.2.2.1 a.2.2.2.1 a.2.2.2.2)))
theorem way_body (T : Tx K mg) (n : Nat) (ih : ∀ m, n = m + 1 → DefOk P w K mg base (m + 1) "way_from" p_way_from (spWay m K mg)) : DefOk P w K mg base (n + 1) "way_from" p_way_from (spWay n K mg) := by
  refine T.d_way_from.ok sc_way_from (fun _ => rfl) fun ⟨V, E, x, y, seen⟩ hw f cdv A outer sh H G E9 hr tk hp => ?_
  have hw : WayOk V E n seen := hw
  have bt := T.bt
  have nd := sc_way_from.nd
  have weq := way_eq (x := x) (y := y) hw
  refine ds_ifRet (eqS hr (v 1) (v 2)) (fun h => ds_ret (dl_e (dl_lst (da_cons (v 1) da_nil))) ?_) fun h => ?_
  · show Out.ok (wayD (wayF E n x y seen)) = Out.ok (.list [.str x])
    rw [weq, if_pos (of_decide_eq_true h)]; rfl
  have hne : ¬ x = y := of_decide_eq_false h
  rw [if_neg hne] at weq
  have seenPl : PyData.plainAll (seen.map .str) = true := PySem.W.plainAll_map seen
  refine ds_for (items := E.map rgT) (fun i ρ => (∃ a4 a5 a6 a7 a8, ρ = [.dat (.tuple (E.map rgT)), .dat (.str x), .dat (.str y), .dat (.list (seen.map .str)), a4, a5, a6, a7, a8]) ∧ ∀ r ∈ E.take i, stepF E n x y seen r = none) (fun ρ => wayF E n x y seen = none) (di_tup (v 0)) ⟨⟨_, _, _, _, _, rfl⟩, fun r hr => by simp at hr⟩ ?_ (fun ρ' ⟨_, h⟩ => ?_) (fun ρ' h => ds_ret de_non ?_) hp rfl
  · rintro i d ρ' hd ⟨⟨a4, a5, a6, a7, a8, rfl⟩, hno⟩
    rw [List.getElem?_map] at hd
    cases hc : E[i]? with
    | none => rw [hc] at hd; cases hd
    | some r =>
      rw [hc] at hd
      cases hd
      have hrE := List.mem_of_getElem? hc
      have next : stepF E n x y seen r = none → ∀ q ∈ E.take (i + 1), stepF E n x y seen q = none := fun h0 q hq => by
        rw [List.take_add_one, hc] at hq
        rcases List.mem_append.mp hq with hq | hq
        · exact hno q hq
        · have : q = r := by simpa using hq
          rw [this]; exact h0
      refine ⟨_, _, dg_tup (ds := [.str r.1, .str r.2.1, .int r.2.2]) rfl (dgs_cons (dg_name (i := 4) nd) (dgs_cons (dg_name (i := 5) nd) (dgs_cons (dg_name (i := 6) nd) dgs_nil))), ?_⟩
      refine ds_set (i := 7) (d := optS (thereOf x r)) (de_to (de_if (eqS hr (v 4) (v 1)) (fun _ => v 5) (fun _ => de_if (eqS hr (v 5) (v 1)) (fun _ => v 4) (fun _ => de_non))) ?_) ?_ nd
      · unfold thereOf
        by_cases h1 : r.1 = x
        · rw [if_pos (decide_eq_true h1), if_pos h1]; rfl
        · rw [if_neg (fun z => h1 (of_decide_eq_true z)), if_neg h1]
          by_cases h2 : r.2.1 = x
          · rw [if_pos (decide_eq_true h2), if_pos h2]; rfl
          · rw [if_neg (fun z => h2 (of_decide_eq_true z)), if_neg h2]; rfl
      cases ht : thereOf x r with
      | none =>
        have h0 : stepF E n x y seen r = none := by unfold stepF; rw [ht]
        exact ds_ifF (dt_w (dw_andF (notNt (v 7)))) (ds_nil ⟨⟨_, _, _, _, _, rfl⟩, next h0⟩)
      | some t =>
        have hin : (seen.map PyData.str).any (fun z => PyData.eqv z (.str t)) = decide (t ∈ seen) := PySem.W.any_datum seen t
        by_cases hs : t ∈ seen
        · have h0 : stepF E n x y seen r = none := by unfold stepF; rw [ht]; dsimp only; rw [if_pos hs]
          exact ds_ifF (dt_w (dw_andT (notNt (v 7)) (dw_and1 (dt_cmpR (op_ninP hr.units) (od_inR (neg := true) seenPl (d := .str t) rfl (.inr (Nat.zero_le _))) (v 7) (de_r (v 3)))))) (ds_nil ⟨⟨_, _, _, _, _, rfl⟩, next h0⟩) (by rw [if_pos rfl, hin, decide_eq_true hs]; rfl)
        · have htV := hw.there hrE ht
          obtain ⟨m, rfl⟩ : ∃ m, n = m + 1 := ⟨n - 1, by have := hw.pos htV hs; omega⟩
          have hw2 := hw.next htV hs
          have hsl : seen.length ≤ 6 := Nat.le_trans (nodup_len hw.snd hw.sV) hw.six
          have hst : stepF E (m + 1) x y seen r = (wayF E m t y (seen ++ [t])).map (x :: ·) := by
            unfold stepF; rw [ht]; dsimp only; rw [if_neg hs]; rfl
          refine ds_if (fun ρ => (∃ a4 a5 a6 a7 a8, ρ = [.dat (.tuple (E.map rgT)), .dat (.str x), .dat (.str y), .dat (.list (seen.map .str)), a4, a5, a6, a7, a8]) ∧ ∀ r ∈ E.take (i + 1), stepF E (m + 1) x y seen r = none) (dt_w (dw_andT (notNt (v 7)) (dw_and1 (dt_cmpR (op_ninP hr.units) (od_inR (neg := true) seenPl (d := .str t) rfl (.inr (Nat.zero_le _))) (v 7) (de_r (v 3)))))) (fun _ => ?_) (fun z => absurd z (by rw [if_pos rfl, hin, decide_eq_false hs]; decide)) fun ρ' h => ds_nil h
          refine ds_set (i := 8) (d := wayD (wayF E m t y (seen ++ [t]))) (de_call (ih m rfl) (V, E, t, y, seen ++ [t]) hr (da_cons (v 0) (da_cons (v 7) (da_cons (v 2) (da_cons (dl_e (dl_to (dl_catR (de_r (v 3)) (dl_r (dl_lst (da_cons (v 7) da_nil))) (by rw [List.length_map, List.length_singleton]; omega)) (by rw [List.map_append]; rfl))) da_nil)))) hw2 rfl rfl) ?_ nd
          cases hq : wayF E m t y (seen ++ [t]) with
          | none => exact ds_ifF (notNt (v 8)) (ds_nil ⟨⟨_, _, _, _, _, rfl⟩, next (by rw [hst, hq]; rfl)⟩)
          | some l =>
            have hll := way_len _ _ _ _ _ _ hq
            have := hw2.n6
            refine ds_ifT (notNt (v 8)) (ds_ret (d := .list ((x :: l).map .str)) (dl_e (dl_catR (dl_r (dl_lst (da_cons (v 1) da_nil))) (de_r (v 8)) (by rw [List.length_singleton, List.length_map]; omega))) ?_) (by rfl)
            show Out.ok (wayD (wayF E (m + 1) x y seen)) = Out.ok (wayD (some (x :: l)))
            rw [weq]
            congr 2
            rw [List.findSome?_eq_some_iff]
            refine ⟨E.take i, r, E.drop (i + 1), ?_, by rw [hst, hq]; rfl, hno⟩
            have h1 : E.drop i = r :: E.drop (i + 1) := by rw [List.drop_eq_getElem?_toList_append, hc]; rfl
            rw [← h1, List.take_append_drop]
  · rw [List.length_map, List.take_length] at h
    show wayF E n x y seen = none
    rw [weq, List.findSome?_eq_none_iff]
    exact h
  · show Out.ok (wayD (wayF E n x y seen)) = Out.ok .none
    rw [show wayF E n x y seen = none from h]; rfl
theorem k_way_from (T : Tx K mg) : ∀ n : Nat, DefOk P w K mg base (n + 1) "way_from" p_way_from (spWay n K mg)
  | 0 => way_body T 0 fun m e => by cases e
  | n + 1 => way_body T (n + 1) fun m e => by cases e; exact k_way_from T n
abbrev spNeedPool (K : PySem.W.Frag) (mg : Str → Option Value) : Sp := spD K mg (α := Sh × D) (fun a => [shT a.1, a.2]) (fun _ => True) (fun a => if isPoolD a.1.1 a.2 then .ok .none else .err "BadPool")
theorem k_need_pool (T : Tx K mg) : DefOk P w K mg base 2 "need_pool" p_need_pool (spNeedPool K mg) := by
  refine T.d_need_pool.ok sc_need_pool (fun _ => rfl) fun ⟨s, d⟩ _ f cdv A outer sh H G E hr tk hp => ?_
  have kP := (k_is_pool (P := P) (w := w) (base := base) T).mono (k := 1) (by decide)
  refine ds_ifRet (p := !isPoolD s.1 d) (dt_not (dt_val (de_call kP (s.1, d) hr (da_cons (de_ix ix_tup (od_ixT (xs := [strsD s.1, .tuple (s.2.map rgT)]) rfl) (v 0) de_int) (da_cons (v 1) da_nil)) trivial rfl rfl))) (fun h => ds_raise T.e_BadPool rfl tk rfl ?_) (fun h => ds_nil ?_)
  · rw [Bool.not_eq_true'] at h
    show (if isPoolD s.1 d = true then Out.ok .none else Out.err "BadPool") = _
    rw [h]; rfl
  · rw [Bool.not_eq_false'] at h
    show (if isPoolD s.1 d = true then Out.ok .none else Out.err "BadPool") = _
    rw [h]; rfl
def strOf : D → Str
  | .str x => x
  | _ => Str.empty
/-- a shore, two pools: what refuses them, or an answer -/
noncomputable def withTwo (d a b : D) (f : Sh → Str → Str → D) : Out := if isShoreD d = true then (if isPoolD (shOf d).1 a = true then (if isPoolD (shOf d).1 b = true then .ok (f (shOf d) (strOf a) (strOf b)) else .err "BadPool") else .err "BadPool") else .err "BadShore"
theorem pool_of {ps : List Str} {d : D} (h : isPoolD ps d = true) : d = .str (strOf d) ∧ strOf d ∈ ps := by
  cases d with
  | str x => exact ⟨rfl, of_decide_eq_true h⟩
  | _ => cases h
abbrev spTwo (f : Sh → Str → Str → D) (K : PySem.W.Frag) (mg : Str → Option Value) : Sp := spD K mg (α := D × D × D) (fun a => [a.1, a.2.1, a.2.2]) (fun a => tameShore a.1) (fun a => withTwo a.1 a.2.1 a.2.2 f)
theorem k_one_from (T : Tx K mg) : DefOk P w K mg base 5 "one_from" p_one_from (spTwo (fun s a b => optD (leastO s a b)) K mg) := by
  refine T.d_one_from.ok sc_one_from (fun _ => rfl) fun ⟨d, a, b⟩ ht f cdv A outer sh H G E hr tk hp => ?_
  have kS := k_need_shore (P := P) (w := w) (base := base) T
  have kP := (k_need_pool (P := P) (w := w) (base := base) T).mono (k := 4) (by decide)
  have kL := (k_least_from (P := P) (w := w) (base := base) T).mono (k := 4) (by decide)
  refine ds_callX kS d hr (da_cons (v 0) da_nil) ht tk rfl (fun x hx => ?_) (fun n hn => ?_)
  rotate_left
  · by_cases h1 : isShoreD d = true
    · rw [h1] at hn; cases hn
    · show withTwo d a b _ = .err n
      unfold withTwo
      rw [if_neg h1]
      rw [Bool.not_eq_true] at h1; rw [h1] at hn; exact hn
  by_cases h1 : isShoreD d = true
  case neg => rw [Bool.not_eq_true] at h1; rw [h1] at hx; cases hx
  obtain ⟨e1, g⟩ := shOf_eq h1
  obtain ⟨s, hs⟩ : ∃ s, shOf d = s := ⟨_, rfl⟩
  have res : withTwo d a b (fun s a b => optD (leastO s a b)) = if isPoolD s.1 a = true then (if isPoolD s.1 b = true then .ok (optD (leastO s (strOf a) (strOf b))) else .err "BadPool") else .err "BadPool" := by unfold withTwo; rw [if_pos h1, hs]
  rw [hs] at e1 g
  subst e1
  refine ds_callX kP (s, a) hr (da_cons (v 0) (da_cons (v 1) da_nil)) trivial tk rfl (fun x2 hx2 => ?_) (fun n hn => ?_)
  rotate_left
  · show withTwo _ a b _ = .err n
    rw [res]
    by_cases h2 : isPoolD s.1 a = true
    · rw [h2] at hn; cases hn
    · rw [if_neg h2]; rw [Bool.not_eq_true] at h2; rw [h2] at hn; exact hn
  by_cases h2 : isPoolD s.1 a = true
  case neg => rw [Bool.not_eq_true] at h2; rw [h2] at hx2; cases hx2
  rw [if_pos h2] at res
  refine ds_callX kP (s, b) hr (da_cons (v 0) (da_cons (v 2) da_nil)) trivial tk rfl (fun x3 hx3 => ?_) (fun n hn => ?_)
  rotate_left
  · show withTwo _ a b _ = .err n
    rw [res]
    by_cases h3 : isPoolD s.1 b = true
    · rw [h3] at hn; cases hn
    · rw [if_neg h3]; rw [Bool.not_eq_true] at h3; rw [h3] at hn; exact hn
  by_cases h3 : isPoolD s.1 b = true
  case neg => rw [Bool.not_eq_true] at h3; rw [h3] at hx3; cases hx3
  rw [if_pos h3] at res
  exact ds_ret (de_call kL (s, strOf a, strOf b) hr (da_cons (v 0) (da_cons (de_to (v 1) (pool_of h2).1) (da_cons (de_to (v 2) (pool_of h3).1) da_nil))) g rfl rfl) res
theorem k_way_in (T : Tx K mg) : DefOk P w K mg base 7 "way_in" p_way_in (spTwo (fun s a b => wayD (wayS s a b)) K mg) := by
  refine T.d_way_in.ok sc_way_in (fun _ => rfl) fun ⟨d, a, b⟩ ht f cdv A outer sh H G E hr tk hp => ?_
  have kS := (k_need_shore (P := P) (w := w) (base := base) T).mono (k := 6) (by decide)
  have kP := (k_need_pool (P := P) (w := w) (base := base) T).mono (k := 6) (by decide)
  have kT := (k_tree_of (P := P) (w := w) (base := base) T).mono (k := 6) (by decide)
  have kW := (k_with_ridges (P := P) (w := w) (base := base) T).mono (k := 6) (by decide)
  refine ds_callX kS d hr (da_cons (v 0) da_nil) ht tk rfl (fun x hx => ?_) (fun n hn => ?_)
  rotate_left
  · by_cases h1 : isShoreD d = true
    · rw [h1] at hn; cases hn
    · show withTwo d a b _ = .err n
      unfold withTwo
      rw [if_neg h1]
      rw [Bool.not_eq_true] at h1; rw [h1] at hn; exact hn
  by_cases h1 : isShoreD d = true
  case neg => rw [Bool.not_eq_true] at h1; rw [h1] at hx; cases hx
  obtain ⟨e1, g⟩ := shOf_eq h1
  obtain ⟨s, hs⟩ : ∃ s, shOf d = s := ⟨_, rfl⟩
  have res : withTwo d a b (fun s a b => wayD (wayS s a b)) = if isPoolD s.1 a = true then (if isPoolD s.1 b = true then .ok (wayD (wayS s (strOf a) (strOf b))) else .err "BadPool") else .err "BadPool" := by unfold withTwo; rw [if_pos h1, hs]
  rw [hs] at e1 g
  subst e1
  refine ds_callX kP (s, a) hr (da_cons (v 0) (da_cons (v 1) da_nil)) trivial tk rfl (fun x2 hx2 => ?_) (fun n hn => ?_)
  rotate_left
  · show withTwo _ a b _ = .err n
    rw [res]
    by_cases h2 : isPoolD s.1 a = true
    · rw [h2] at hn; cases hn
    · rw [if_neg h2]; rw [Bool.not_eq_true] at h2; rw [h2] at hn; exact hn
  by_cases h2 : isPoolD s.1 a = true
  case neg => rw [Bool.not_eq_true] at h2; rw [h2] at hx2; cases hx2
  rw [if_pos h2] at res
  refine ds_callX kP (s, b) hr (da_cons (v 0) (da_cons (v 2) da_nil)) trivial tk rfl (fun x3 hx3 => ?_) (fun n hn => ?_)
  rotate_left
  · show withTwo _ a b _ = .err n
    rw [res]
    by_cases h3 : isPoolD s.1 b = true
    · rw [h3] at hn; cases hn
    · rw [if_neg h3]; rw [Bool.not_eq_true] at h3; rw [h3] at hn; exact hn
  by_cases h3 : isPoolD s.1 b = true
  case neg => rw [Bool.not_eq_true] at h3; rw [h3] at hx3; cases hx3
  rw [if_pos h3] at res
  obtain ⟨ea, hma⟩ := pool_of h2
  have hR : InR s (treeS s) := fun n hn => tree_in s n (treeS_mem.mp hn)
  have hTl : (treeS s).length ≤ 10 := Nat.le_trans (sub_in (up_sub (treeS_up s) hR)).2 g.ten
  have wok : WayOk s.1 (treeE s) (s.1.length - 1) [strOf a] := ⟨good_nd g, g.six, fun r hr => g.ends r (treeE_sub hr), by show ((treeS s).map (rgAt s)).length ≤ 10; rw [List.length_map]; exact hTl, by simp, fun z hz => by rw [List.mem_singleton.mp hz]; exact hma, by rw [List.length_singleton]; omega, by have := g.six; omega⟩
  have kF := (k_way_from (P := P) (w := w) (base := base) T (s.1.length - 1)).mono (k := 6) (by have := g.six; have := g.two; omega)
  exact ds_ret (de_call kF (s.1, treeE s, strOf a, strOf b, [strOf a]) hr (da_cons (de_ix ix_tup (od_ixT (xs := [strsD s.1, .tuple ((treeE s).map rgT)]) rfl) (de_call kW (s, treeS s) hr (da_cons (v 0) (da_cons (de_call kT s hr (da_cons (v 0) da_nil) g rfl rfl) da_nil)) ⟨hR, Nat.le_trans hTl (by decide)⟩ rfl rfl) de_int) (da_cons (de_to (v 1) ea) (da_cons (de_to (v 2) (pool_of h3).1) (da_cons (dl_e (dl_lst (da_cons (de_to (v 1) ea) da_nil))) da_nil)))) wok rfl rfl) res
end
end LP
/-! DN1: dicts whose keys are (nested) tuples of numbers and texts: as things; made of a list of pairs; read. -/
namespace DL
open PySem PySem.Spec PyProof.Rows L2
abbrev NK := NestedKey
mutual
theorem reads_nested {h : Heap} : ∀ (k : NK) (v : Value) (as : List Addr), Reads h v k.data as → NestedIs h k v
  | .none, v, as, r => by
    have r : Reads h v .none as := r
    cases r; exact .none
  | .num i, v, as, r => by
    have r : Reads h v (.int i) as := r
    cases r; exact .int i _
  | .text x, v, as, r => by
    have r : Reads h v (.str x) as := r
    cases r; exact .text x _
  | .tup ks, v, as, r => by
    have r : Reads h v (.tuple (NestedKey.datas ks)) as := r
    cases r with
    | tuple h1 h2 h3 h4 => exact .tup h1 h2 h3 (reads_nestedAll ks _ _ h4)
theorem reads_nestedAll {h : Heap} : ∀ (ks : List NK) (vs : List Value) (as : List Addr), ReadsAll h vs (NestedKey.datas ks) as → NestedAll h ks vs
  | [], vs, as, r => by
    have r : ReadsAll h vs [] as := r
    cases r; exact .nil
  | k :: ks, vs, as, r => by
    have r : ReadsAll h vs (k.data :: NestedKey.datas ks) as := r
    cases r with
    | cons h1 h2 => exact .cons (reads_nested k _ _ h1) (reads_nestedAll ks _ _ h2)
end
/-! ### tables -/
section
variable {β γ : Type}
def getN (kvs : List (NK × β)) (k : NK) : Option β := (kvs.find? fun p => decide (p.1 = k)).map (·.2)
def putN (kvs : List (NK × β)) (k : NK) (v : β) : List (NK × β) := if (getN kvs k).isSome = true then kvs.map (fun p => if p.1 = k then (p.1, v) else p) else kvs ++ [(k, v)]
theorem getN_nil {k : NK} : getN ([] : List (NK × β)) k = none := rfl
theorem getN_cons {p : NK × β} {r : List (NK × β)} {k : NK} : getN (p :: r) k = if p.1 = k then some p.2 else getN r k := by
  unfold getN
  rw [List.find?_cons]
  by_cases h : p.1 = k
  · rw [decide_eq_true h, if_pos h]; rfl
  · rw [decide_eq_false h, if_neg h]
theorem getN_map (k j : NK) (y : β) : ∀ kvs : List (NK × β), getN (kvs.map fun p => if p.1 = k then (p.1, y) else p) j = (getN kvs j).map fun x => if j = k then y else x
  | [] => rfl
  | p :: r => by
    rw [List.map_cons, getN_cons, getN_cons, getN_map k j y r]
    by_cases h : p.1 = k
    · rw [if_pos h]
      by_cases e : p.1 = j
      · rw [if_pos e, if_pos e, Option.map_some, if_pos (e.symm.trans h)]
      · rw [if_neg e, if_neg e]
    · rw [if_neg h]
      by_cases e : p.1 = j
      · rw [if_pos e, if_pos e, Option.map_some, if_neg (fun z => h (e.trans z))]
      · rw [if_neg e, if_neg e]
theorem getN_snoc (k j : NK) (y : β) : ∀ kvs : List (NK × β), getN kvs k = none → getN (kvs ++ [(k, y)]) j = if j = k then some y else getN kvs j
  | [], _ => by
    rw [List.nil_append, getN_cons]
    by_cases e : k = j
    · rw [if_pos e, if_pos e.symm]
    · rw [if_neg e, if_neg (fun z => e z.symm)]
  | p :: r, hn => by
    rw [getN_cons] at hn
    have hk : ¬ p.1 = k := fun z => by rw [if_pos z] at hn; cases hn
    rw [if_neg hk] at hn
    rw [List.cons_append, getN_cons, getN_cons, getN_snoc k j y r hn]
    by_cases e : p.1 = j
    · rw [if_pos e, if_pos e, if_neg (fun z => hk (e.trans z))]
    · rw [if_neg e, if_neg e]
theorem getN_put (kvs : List (NK × β)) (k j : NK) (y : β) : getN (putN kvs k y) j = if j = k then some y else getN kvs j := by
  unfold putN
  by_cases a : (getN kvs k).isSome = true
  · rw [if_pos a, getN_map]
    by_cases e : j = k
    · obtain ⟨x, hx⟩ := Option.isSome_iff_exists.mp a
      rw [if_pos e, e, hx, Option.map_some, if_pos rfl]
    · rw [if_neg e]
      cases getN kvs j with
      | none => rfl
      | some x => rw [Option.map_some, if_neg e]
  · rw [if_neg a]
    exact getN_snoc k j y kvs (by simpa using a)
theorem getN_mem {kvs : List (NK × β)} {k : NK} {v : β} (h : getN kvs k = some v) : (k, v) ∈ kvs := by
  unfold getN at h
  obtain ⟨p, hp, e⟩ := Option.map_eq_some_iff.mp h
  have h1 := List.find?_some hp
  have h2 := List.mem_of_find?_eq_some hp
  obtain ⟨a, b⟩ := p
  have h1 : a = k := of_decide_eq_true h1
  subst h1; subst e; exact h2
theorem getN_of_mem : ∀ {kvs : List (NK × β)} {k : NK} {v : β}, (kvs.map (·.1)).Nodup → (k, v) ∈ kvs → getN kvs k = some v
  | p :: r, k, v, nd, h => by
    rw [List.map_cons, List.nodup_cons] at nd
    rw [getN_cons]
    rcases List.mem_cons.mp h with e | h
    · subst e; rw [if_pos rfl]
    · rw [if_neg (fun z : p.1 = k => nd.1 (List.mem_map.mpr ⟨(k, v), h, z.symm⟩))]
      exact getN_of_mem nd.2 h
theorem getN_none {kvs : List (NK × β)} {k : NK} : getN kvs k = none ↔ k ∉ kvs.map (·.1) := by
  unfold getN
  rw [Option.map_eq_none_iff, List.find?_eq_none]
  constructor
  · rintro h hm
    obtain ⟨p, hp, e⟩ := List.mem_map.mp hm
    exact h p hp (decide_eq_true e)
  · intro h p hp e
    exact h (List.mem_map.mpr ⟨p, hp, of_decide_eq_true e⟩)
theorem getN_isSome {kvs : List (NK × β)} {k : NK} : (getN kvs k).isSome = decide (k ∈ kvs.map (·.1)) := by
  by_cases h : k ∈ kvs.map (·.1)
  · rw [decide_eq_true h]
    cases q : getN kvs k with
    | none => exact absurd h (getN_none.mp q)
    | some _ => rfl
  · rw [decide_eq_false h, getN_none.mpr h]; rfl
theorem keys_put {kvs : List (NK × β)} {k : NK} {v : β} : (putN kvs k v).map (·.1) = if k ∈ kvs.map (·.1) then kvs.map (·.1) else kvs.map (·.1) ++ [k] := by
  unfold putN
  rw [getN_isSome]
  by_cases h : k ∈ kvs.map (·.1)
  · rw [decide_eq_true h, if_pos rfl, if_pos h, List.map_map]
    exact List.map_congr_left fun p _ => by dsimp only [Function.comp_apply]; split <;> rfl
  · rw [decide_eq_false h, if_neg (by decide), if_neg h, List.map_append]; rfl
theorem put_len (kvs : List (NK × β)) (k : NK) (v : β) : (putN kvs k v).length ≤ kvs.length + 1 := by
  unfold putN
  split
  · rw [List.length_map]; omega
  · rw [List.length_append, List.length_singleton]; omega
end
/-! ### the cell -/
section
variable (P : Program) (w : World)
/-- at a stands a dict with these entries -/
def DicF (a : Addr) (xs : List (NK × Addr × Value)) : Heap → Prop := fun h => ∃ o es ep, h.get? a = some o ∧ o.ExactDict ∧ o.data = .dict es ep ∧ es.toList = xs.map (entryOfKey (nestedKind P w))
def NRel (K : PySem.W.Frag) (G : Hp) : List (NK × Addr × Value) → List (NK × D) → Prop := Paired fun x p => x.1 = p.1 ∧ Dp K G (.ref x.2.1) p.1.data ∧ p.1.depth ≤ 8 ∧ ∃ v, RelV v x.2.2 ∧ Dp K G v p.2
def DnOk (a : Addr) (kvs : List (NK × D)) (K : PySem.W.Frag) (G : Hp) (o : HO) : Prop := ∃ xs, o = .ext (DicF P w a xs) ∧ (∃ h, DicF P w a xs h) ∧ (a == sysModules) = false ∧ (xs.map (·.1)).Nodup ∧ NRel K G xs kvs
end
theorem NRel.up {K : PySem.W.Frag} {G G2 : Hp} {xs : List (NK × Addr × Value)} {kvs : List (NK × D)} (h : NRel K G xs kvs) (e : Ex G G2) : NRel K G2 xs kvs := Paired.mapP h fun x p ⟨h1, h2, h3, v, h4, h5⟩ => ⟨h1, Dp.up h2 e, h3, v, h4, Dp.up h5 e⟩
theorem NRel.keys {K : PySem.W.Frag} {G : Hp} {xs : List (NK × Addr × Value)} {kvs : List (NK × D)} (h : NRel K G xs kvs) : xs.map (·.1) = kvs.map (·.1) := by
  unfold NRel at h
  induction h with
  | nil => rfl
  | cons r t ih => rw [List.map_cons, List.map_cons, ih, r.1]
theorem NRel.length {K : PySem.W.Frag} {G : Hp} {xs : List (NK × Addr × Value)} {kvs : List (NK × D)} (h : NRel K G xs kvs) : xs.length = kvs.length := by
  have := congrArg List.length h.keys
  simpa using this
theorem NRel.get {K : PySem.W.Frag} {G : Hp} {xs : List (NK × Addr × Value)} {kvs : List (NK × D)} (h : NRel K G xs kvs) (k : NK) : (atKey xs k).isSome = (getN kvs k).isSome ∧ ∀ d, getN kvs k = some d → ∃ p v, atKey xs k = some p ∧ RelV v p.2 ∧ Dp K G v d := by
  unfold NRel at h
  induction h with
  | nil => exact ⟨rfl, fun d h => by cases h⟩
  | @cons x p xs kvs r t ih =>
    obtain ⟨h1, h2, h3, v, h4, h5⟩ := r
    rw [getN_cons]
    by_cases e : p.1 = k
    · have b : atKey (x :: xs) k = some x.2 := by simp [atKey, List.find?_cons, h1.trans e]
      rw [if_pos e, b]
      exact ⟨rfl, fun d hd => by cases hd; exact ⟨x.2, v, rfl, h4, h5⟩⟩
    · have ne : ¬ x.1 = k := fun z => e (h1.symm.trans z)
      have b : atKey (x :: xs) k = atKey xs k := by simp [atKey, List.find?_cons, ne]
      rw [if_neg e, b]
      exact ih
theorem DnOk.up {P : Program} {w : World} {a : Addr} {kvs : List (NK × D)} {K : PySem.W.Frag} {G G2 : Hp} {o : HO} (h : DnOk P w a kvs K G o) (e : Ex G G2) : DnOk P w a kvs K G2 o := by
  obtain ⟨xs, h1, h2, h3, h4, h5⟩ := h
  exact ⟨xs, h1, h2, h3, h4, h5.up e⟩
def dnC (P : Program) (w : World) (a : Addr) (kvs : List (NK × D)) : Cell := ⟨a, DnOk P w a kvs, fun _ _ _ _ e h => h.up e, fun _ _ _ ⟨xs, h1, h2, _⟩ => by
  rw [h1]
  exact ⟨a, h2, fun h ⟨o, es, ep, e1, e2, e3, _⟩ => ⟨o, e1, fun vs q => by rw [e3] at q; cases q⟩⟩⟩
def dnT (P : Program) (w : World) (a : Addr) (kvs : List (NK × D)) : Thg := ⟨a, [dnC P w a kvs], true⟩
theorem dic_obj {P : Program} {w : World} {H : Hp} {h : Heap} {a : Addr} {xs : List (NK × Addr × Value)} (d : DicF P w a xs h) : ObjOk P w H h a (.ext (DicF P w a xs)) :=
  ⟨d, let ⟨o, _, _, e, _⟩ := d; ⟨o, e⟩, fun h1 h2 ⟨o, es, ep, e1, e2⟩ k => ⟨o, es, ep, k o e1, e2⟩⟩
section
variable {X : Cx} {pins : List (Addr × Obj)} {σ : L2.St} {G H : Hp} {s : Shared} {a b : Addr} {kvs : List (NK × D)} {o : HO} {A : Around} {E : Value → Shared → Prop} {k : NK}
theorem key_is (I : Inv X pins σ H s) (r : Dp X.K H (.ref b) k.data) (hd : k.depth ≤ 8) : (nestedKind X.prog X.w).is s.heap k b := by
  obtain ⟨as, q⟩ := Dp.reads I _ _ _ r (show RelV (.ref b) (.ref b) from rfl)
  exact ⟨reads_nested _ _ _ q, hd⟩
theorem dn_dict (I : Inv X pins σ H s) (e : H a = some o) (ok : DnOk X.prog X.w a kvs X.K G o) (g : Ex G H) : ∃ xs, o = .ext (DicF X.prog X.w a xs) ∧ (a == sysModules) = false ∧ NRel X.K G xs kvs ∧ s.heap.DictOfH (nestedKind X.prog X.w) a xs := by
  obtain ⟨xs, rfl, _, h3, h4, h5⟩ := ok
  obtain ⟨⟨o, es, ep, q1, q2, q3, q4⟩, _⟩ := (show ObjOk X.prog X.w H s.heap a (.ext (DicF X.prog X.w a xs)) from I.hok a _ e)
  refine ⟨xs, rfl, h3, h5, o, es, ep, q1, q2, q3, q4, ?_, h4⟩
  have all : ∀ {ys : List (NK × Addr × Value)} {ps : List (NK × D)}, NRel X.K G ys ps → ∀ x ∈ ys, (nestedKind X.prog X.w).is s.heap x.1 x.2.1 := by
    intro ys ps r
    unfold NRel at r
    induction r with
    | nil => intro x hx; cases hx
    | cons r t ih =>
      intro x hx
      rcases List.mem_cons.mp hx with rfl | hx
      · obtain ⟨r1, r2, r3, _⟩ := r
        rw [r1]; exact key_is I (r2.up g) r3
      · exact ih x hx
  exact all h5
end
/-! ### readings -/
section
variable {X : Cx} {H0 : Bs} {F : Fr0} {ρ : Env} {e key : Expr} {kvs : List (NK × D)} {ks : List NK} {d : D} {pos p : Pos} {x : Str} {kk : Nat}
/-- the dict that e names -/
def tDn (X : Cx) (H0 : Bs) (ρ : Env) (kvs : List (NK × D)) : TE := fun σ H Q => ∃ G, Ex G H ∧ Slots X.K H0 G H σ ρ ∧ ∀ a o G2 H2, Ext G H G2 H2 → H2 a = some o → DnOk X.prog X.w a kvs X.K G2 o → Q (.ref a) H2
abbrev DN (X : Cx) (H0 : Bs) (ρ : Env) (e : Expr) (kvs : List (NK × D)) : Prop := PE X e (tDn X H0 ρ kvs)
theorem dn_name {a : Addr} (i : Nat) (h : ρ[i]? = some (.thg (dnT X.prog X.w a kvs)) := by rfl) (hN : X.N[i]? = some x := by rfl) (hv : Vis X.env.scope x := by first | exact Or.inl rfl | exact Or.inr (Or.inl rfl) | exact Or.inr (Or.inr rfl)) (hd : (x == ("__debug__" : Str)) = false := by decide)
    (hcd : (x == ("__classdict__" : Str)) = false := by decide) : DN X H0 ρ (.Name x p) kvs := (pv i hN hv hd hcd).imp fun σ H Q ⟨G, ex, sl, q⟩ => by
  obtain ⟨hroot, tok⟩ := sl.thg.at_ i _ h
  obtain ⟨_, _, o, h1, h2⟩ := tok.ok _ List.mem_cons_self
  exact ⟨.ref a, hroot, q a o G H (Ext.refl ex) h1 h2⟩
def tNGet (X : Cx) (td ty : TE) : TE := fun σ H Q => td σ H fun x H1 => ty σ H1 fun y H2 => ∃ a o G kvs ks d, x = .ref a ∧ H2 a = some o ∧ DnOk X.prog X.w a kvs X.K G o ∧ Ex G H2 ∧ Dp X.K H2 y (NestedKey.tup ks).data ∧ (NestedKey.tup ks).depth ≤ 8 ∧ getN kvs (.tup ks) = some d ∧ ∀ v, Dp X.K G v d → Q v H2
theorem pe_nget {td ty : TE} (hu : X.A.units + 64 < cLine) (ho : PE X e td) (hi : PE X key ty) (hs : NoSl key) : PE X (.Subscript e key pos) (tNGet X td ty) := by
  refine ⟨fun pins s σ H Q I h => ?_⟩
  refine subD_of PySem.F.slot_dict_getitem.lookup hs (thn (ho.run pins s σ H _ I h) fun u s1 ⟨x, H1, I1, rx, q1⟩ => thn (hi.run pins s1 σ H1 _ I1 q1) fun iv s2 ⟨y, H2, I2, ry, a, o, G, kvs, ks, d, ex, ha, hok, g, rk, hdp, hg, q2⟩ => ?_)
  subst ex
  obtain rfl : u = Value.ref a := rx
  obtain ⟨xs, _, h3, h5, dd⟩ := dn_dict I2 ha hok g
  obtain ⟨b, ws, rfl, _⟩ := dp_tup rk
  obtain rfl : iv = Value.ref b := ry
  obtain ⟨pp, v, hp, rv, dv⟩ := (h5.get (.tup ks)).2 d hg
  exact ⟨dd.typeIs, wpAny_getItem_heap (show X.A.in1.units + 8 < cLine by show X.A.units + 1 + 8 < cLine; omega) (key_is I2 rk hdp) dd hp ⟨v, H2, I2.tok _, rv, q2 v dv⟩⟩
/-- e[key] -/
theorem de_nget (hr : Room kk X.A) (he : DN X H0 ρ e kvs) (hk : DE X H0 ρ key (NestedKey.tup ks).data) (hdp : (NestedKey.tup ks).depth ≤ 8) (hg : getN kvs (.tup ks) = some d) (hs : NoSl key := by exact fun _ _ => rfl) : DE X H0 ρ (.Subscript e key pos) d :=
  (pe_nget (by have := hr.units; omega) he hk hs).imp fun σ H Q ⟨G, ex, sl, q⟩ => ⟨G, ex, sl, fun a o G1 H1 y1 ha hok => ⟨G1, y1.gh, sl.up y1, fun v G2 H2 y2 r => ⟨a, o, G2, kvs, ks, d, rfl, y2.h _ _ ha, hok.up y2.g, y2.gh, r.up y2.gh, hdp, hg, fun v' r' => q v' G2 H2 (y1.trans y2) r'⟩⟩⟩
def rNIn (X : Cx) (neg : Bool) : R2 := fun y x H Q => ∃ a o G kvs ks, x = .ref a ∧ H a = some o ∧ DnOk X.prog X.w a kvs X.K G o ∧ Ex G H ∧ Dp X.K H y (NestedKey.tup ks).data ∧ (NestedKey.tup ks).depth ≤ 8 ∧ Q (.bl (if neg = true then !(getN kvs (.tup ks)).isSome else (getN kvs (.tup ks)).isSome)) H
theorem op_nin (hu : X.A.units + 64 < cLine) : OpR X (compareOp .In) (rNIn X false) := by
  intro pins s σ H y x iv u Q I ry rx ⟨a, o, G, kvs, ks, ex, ha, hok, g, rk, hdp, q⟩
  subst ex
  obtain rfl : u = Value.ref a := rx
  obtain ⟨xs, _, h3, h5, dd⟩ := dn_dict I ha hok g
  obtain ⟨b, ws, rfl, _⟩ := dp_tup rk
  obtain rfl : iv = Value.ref b := ry
  refine wpAny_in_heap (show X.A.in1.units + 8 < cLine by show X.A.units + 1 + 8 < cLine; omega) (key_is I rk hdp) h3 dd ?_
  rw [(h5.get (.tup ks)).1]
  exact ⟨V.bl _, H, I.tok _, rfl, q⟩
theorem op_nnin (hu : X.A.units + 64 < cLine) : OpR X (compareOp .NotIn) (rNIn X true) := by
  intro pins s σ H y x iv u Q I ry rx ⟨a, o, G, kvs, ks, ex, ha, hok, g, rk, hdp, q⟩
  subst ex
  obtain rfl : u = Value.ref a := rx
  obtain ⟨xs, _, h3, h5, dd⟩ := dn_dict I ha hok g
  obtain ⟨b, ws, rfl, _⟩ := dp_tup rk
  obtain rfl : iv = Value.ref b := ry
  refine wpAny_notIn_heap (show X.A.in1.units + 8 < cLine by show X.A.units + 1 + 8 < cLine; omega) (key_is I rk hdp) h3 dd ?_
  rw [(h5.get (.tup ks)).1]
  exact ⟨V.bl _, H, I.tok _, rfl, q⟩
/-- key in e, key not in e, as tests -/
theorem dt_nin (hr : Room kk X.A) (hk : DE X H0 ρ key (NestedKey.tup ks).data) (he : DN X H0 ρ e kvs) (hdp : (NestedKey.tup ks).depth ≤ 8) (hm : behindInMarks .In e = false := by first | exact nomark _ | rfl) : DT X H0 ρ (.Compare key [.In] [e] pos) (getN kvs (.tup ks)).isSome :=
  (pt_cmpR (op_nin (by have := hr.units; omega)) hk he hm).imp fun σ H Q ⟨G, ex, sl, q⟩ => ⟨G, ex, sl, fun v G1 H1 y1 r => ⟨G1, y1.gh, sl.up y1, fun a o G2 H2 y2 ha hok => ⟨a, o, G2, kvs, ks, rfl, ha, hok, y2.gh, (r.up y2.g).up y2.gh, hdp, _, rfl, q G2 H2 (y1.trans y2)⟩⟩⟩
theorem dt_nnin (hr : Room kk X.A) (hk : DE X H0 ρ key (NestedKey.tup ks).data) (he : DN X H0 ρ e kvs) (hdp : (NestedKey.tup ks).depth ≤ 8) (hm : behindInMarks .NotIn e = false := by first | exact nomark _ | rfl) : DT X H0 ρ (.Compare key [.NotIn] [e] pos) (!(getN kvs (.tup ks)).isSome) :=
  (pt_cmpR (op_nnin (by have := hr.units; omega)) hk he hm).imp fun σ H Q ⟨G, ex, sl, q⟩ => ⟨G, ex, sl, fun v G1 H1 y1 r => ⟨G1, y1.gh, sl.up y1, fun a o G2 H2 y2 ha hok => ⟨a, o, G2, kvs, ks, rfl, ha, hok, y2.gh, (r.up y2.g).up y2.gh, hdp, _, rfl, q G2 H2 (y1.trans y2)⟩⟩⟩
end
end DL
/-! DN2: dict(pairs) with keys that are tuples. -/
namespace DL
open PySem PySem.Spec PyProof.Rows L2
theorem storedAll_new : ∀ (ps xs : List (NK × Addr × Value)), ((xs ++ ps).map (·.1)).Nodup → storedAllH xs ps = xs ++ ps
  | [], xs, _ => by rw [List.append_nil]; rfl
  | p :: ps, xs, nd => by
    show storedAllH (storedH xs p.1 p.2.1 p.2.2) ps = _
    have hn : atKey xs p.1 = none := by
      unfold atKey
      rw [Option.map_eq_none_iff, List.find?_eq_none]
      intro x hx e
      have e : x.1 = p.1 := of_decide_eq_true e
      rw [List.map_append, List.map_cons] at nd
      exact (List.nodup_append.mp nd).2.2 _ (List.mem_map.mpr ⟨x, hx, rfl⟩) _ List.mem_cons_self e
    rw [storedH_new hn, storedAll_new ps _ (by simpa using nd), List.append_assoc]; rfl
def PRel (K : PySem.W.Frag) (G : Hp) : List V → List (NK × D) → Prop := Paired fun v p => ∃ c b v1, v = V.ref c ∧ SqT K G c [.ref b, v1] ∧ p.1.depth ≤ 8 ∧ Dp K G (.ref b) p.1.data ∧ Dp K G v1 p.2
theorem prel_of {K : PySem.W.Frag} {G : Hp} : ∀ {kvs : List (NK × D)} {ws : List V}, (∀ p ∈ kvs, p.1.depth ≤ 8 ∧ ∃ ks, p.1 = .tup ks) → DpAll K G ws (kvs.map fun p => .tuple [p.1.data, p.2]) → PRel K G ws kvs
  | [], ws, _, h => by rw [h.inv_nil]; exact .nil
  | p :: r, ws, hk, h => by
    obtain ⟨v, r', rfl, h1, h2⟩ := h.inv_cons
    obtain ⟨c, vs, rfl, q1, q2⟩ := dp_tup h1
    obtain ⟨k1, vs', rfl, d1, q2⟩ := q2.inv_cons
    obtain ⟨v1, vs'', rfl, d2, q2⟩ := q2.inv_cons
    rw [q2.inv_nil] at q1
    obtain ⟨hd, ks, e⟩ := hk p List.mem_cons_self
    obtain ⟨b, _, rfl, _⟩ := dp_tup (show Dp K G k1 (.tuple (NestedKey.datas ks)) by rw [e] at d1; exact d1)
    exact .cons ⟨c, b, v1, rfl, q1, hd, d1, d2⟩ (prel_of (fun p hp => hk p (List.mem_cons_of_mem _ hp)) h2)
section
variable {X : Cx} {pins : List (Addr × Obj)} {σ : L2.St} {G H : Hp} {s : Shared}
theorem pairsN_of (I : Inv X pins σ H s) (g : Ex G H) : ∀ {ws : List V} {kvs : List (NK × D)} {us : List Value}, PRel X.K G ws kvs → Vals ws us →
    ∃ (ps : List (NK × Addr × Value)) (cs : List Addr), us = cs.map Value.ref ∧ cs.length = ps.length ∧ NRel X.K G ps kvs ∧ ∀ (j : Nat) x, ps[j]? = some x → ∃ c, cs[j]? = some c ∧ IsTup s.heap c #[.ref x.2.1, x.2.2]
  | _, _, us, .nil, r => by
    cases r
    exact ⟨[], [], rfl, rfl, .nil, fun j x e => by simp at e⟩
  | _, _, us, .cons (a := v) (b := p) h t, r => by
    obtain ⟨c, b, v1, rfl, h1, h2, h3, h4⟩ := h
    cases r with
    | cons r1 r2 =>
      obtain ⟨ps, cs, e1, e2, rel, hp⟩ := pairsN_of I g t r2
      obtain ⟨its, rv, ht, _⟩ := I.tuple (g.seqT h1)
      obtain ⟨u, y, ei, ru, ry⟩ := vals2 rv
      subst ei
      have ru : u = Value.ref b := ru
      subst ru
      cases r1
      refine ⟨(p.1, b, y) :: ps, c :: cs, by rw [e1]; rfl, by rw [List.length_cons, List.length_cons, e2], .cons ⟨rfl, h3, h2, v1, ry, h4⟩ rel, fun j x e => ?_⟩
      cases j with
      | zero =>
        have e' : (p.1, b, y) = x := Option.some.inj e
        subst e'
        exact ⟨c, rfl, ht⟩
      | succ j =>
        obtain ⟨c', q1, q2⟩ := hp j x (by simpa using e)
        exact ⟨c', by simpa using q1, q2⟩
def rDictN (X : Cx) : List V → Hp → VK → Prop := fun vs H Q => ∃ (a : Addr) (ws : List V) (kvs : List (NK × D)) (G : Hp), vs = [.ref a] ∧ SqL X.K H a ws ∧ Ex G H ∧ PRel X.K G ws kvs ∧ (kvs.map (·.1)).Nodup ∧ ∀ p o, H p = none → DnOk X.prog X.w p kvs X.K G o → Q (.ref p) (upd H p o)
theorem call_dictN (hcalm : X.calm = true) (hu : X.A.units + 64 < cLine) : CallR X (.type "dict") (rDictN X) := by
  intro pins s σ H xs us Q I r ⟨a, ws, kvs, G, ex, hq, g, hp, nd, q⟩
  subst ex
  rw [Vals.ref1 r]
  obtain ⟨its, rv, pl, hz⟩ := I.list hq
  obtain ⟨ps, cs, e1, e2, rel, hat⟩ := pairsN_of I g hp rv
  have his : ∀ x ∈ ps, (nestedKind X.prog X.w).is s.heap x.1 x.2.1 := by
    have all : ∀ {ys : List (NK × Addr × Value)} {ps : List (NK × D)}, NRel X.K G ys ps → ∀ x ∈ ys, (nestedKind X.prog X.w).is s.heap x.1 x.2.1 := by
      intro ys ps r
      unfold NRel at r
      induction r with
      | nil => intro x hx; cases hx
      | cons r t ih =>
        intro x hx
        rcases List.mem_cons.mp hx with rfl | hx
        · obtain ⟨r1, r2, r3, _⟩ := r
          rw [r1]; exact key_is I (r2.up g) r3
        · exact ih x hx
    exact all rel
  have nd2 : (ps.map (·.1)).Nodup := by rw [rel.keys]; exact nd
  have hlen : its.length = ps.length := by rw [e1, List.length_map, e2]
  have hwl : ws.length = its.length := Vals.length rv
  refine call_dict_pairsH (knd := nestedKind X.prog X.w) (ps := ps) (PairArg.list a its.toArray (fun j => (cs[j]?).getD 0) (ps.map fun x => (Value.ref x.2.1, x.2.2))) (I.ok.hd hcalm) (show X.A.in1.in1.units + 8 < cLine by show X.A.units + 1 + 1 + 8 < cLine; omega) ⟨?_, ?_, ?_⟩ ⟨?_, ?_⟩ ?_ ?_ fun h' tk hd' hk => ?_
  · exact pl
  · simp [hlen]
  · intro j k v h
    rw [List.getElem?_map] at h
    cases hx : ps[j]? with
    | none => rw [hx] at h; cases h
    | some x =>
      rw [hx] at h
      cases h
      obtain ⟨c, q1, q2⟩ := hat j x hx
      have ec : (fun j => (cs[j]?).getD 0) j = c := by show (cs[j]?).getD 0 = c; rw [q1]; rfl
      refine ⟨?_, .inl ?_⟩
      · rw [ec, e1]
        simp [q1]
      · rw [ec]; exact q2
  · rw [List.length_map]
  · intro i key v h
    have h : (ps.map fun x => (Value.ref x.2.1, x.2.2))[i]? = some (key, v) := h
    rw [List.getElem?_map] at h
    cases hx : ps[i]? with
    | none => rw [hx] at h; cases h
    | some x =>
      rw [hx] at h
      cases h
      exact ⟨x.1, x.2.1, rfl, rfl⟩
  · exact fun h' hk x hx => nestedKind_stays.stays (fun b o vs n e _ => hk b o (Nat.ne_of_lt (Heap.lt_size e)) (fun q => nomatch q) e) (his x hx)
  · rw [List.length_map, ← hlen, ← hwl]; exact hz
  · rw [storedAll_new ps [] (by simpa using nd2), List.nil_append] at hd'
    obtain ⟨o, es, ep, q1, q2, q3, q4, _, _⟩ := hd'
    have df : DicF X.prog X.w s.heap.objs.size ps h' := ⟨o, es, ep, q1, q2, q3, q4⟩
    exact ⟨.ref s.heap.objs.size, upd H s.heap.objs.size (.ext (DicF X.prog X.w s.heap.objs.size ps)), I.laid (t' := tk) (fun b u e => hk b u (fun q => nomatch q) e) (Nat.le_refl _) (dic_obj df), rfl, q _ _ (I.hok.fresh (Nat.le_refl _)) ⟨ps, rfl, ⟨h', df⟩, beq_eq_false_iff_ne.mpr (Nat.ne_of_gt I.big), nd2, rel⟩⟩
end
section
variable {X : Cx} {F : Fr0} {ρ : Env} {e : Expr} {kvs : List (NK × D)} {p1 pos : Pos} {k : Nat}
/-- a new thing that is one dict -/
theorem dnT_new {K : PySem.W.Frag} {out G H : Hp} {P : Program} {w : World} {z : Addr} {o : HO} (h0 : out z = none) (hg : G z = none) (hok : DnOk P w z kvs K G o) : (dnT P w z kvs).Ok K out G (upd H z o) := ⟨fun c hc => by
  rcases List.mem_cons.mp hc with rfl | hc
  · exact ⟨fun _ => h0, hg, o, upd_same, hok⟩
  · cases hc⟩
/-- dict(e), e a list of pairs -/
theorem pe_dictN (bt : Bt X.mg) (hc : X.calm = true) (hr : Room k X.A) (hk : ∀ p ∈ kvs, p.1.depth ≤ 8 ∧ ∃ ks, p.1 = .tup ks) (nd : (kvs.map (·.1)).Nodup) (ha : DR X F.H0 ρ e (kvs.map fun p => .tuple [p.1.data, p.2])) (hg : Gl X "dict" := by rfl)
    (he : starEach (e :: []) X.env = (false, eval e X.env) :: starEach [] X.env := by rfl) (hpl : (backTo pos (starEach [] X.env)).any (·.1) = false := by rfl) :
    PE X (.Call (.Name "dict" p1) [e] [] pos) (tNewT X.K F ρ fun t => ∃ a, t = dnT X.prog X.w a kvs) :=
  (pe_callTy (call_dictN hc hr.units) hg (bt.at _) (by decide +kernel) (pa_one ha he) (by decide) (by decide) he hpl).imp fun σ H Q ⟨G, ex, sl, q⟩ => ⟨G, ex.gh, sl, fun p vs G1 H1 y h rs => ⟨p, vs, kvs, G1, rfl, h, y.gh, prel_of hk rs, nd, fun z o hz hok => q (dnT X.prog X.w z kvs) G1 (upd H1 z o) ⟨z, rfl⟩ rfl (y.trans (Ext.heap y.gh (Ex.new hz))) (fun a ⟨c, hc, ea⟩ => by
    rcases List.mem_cons.mp hc with rfl | hc
    · rw [← ea]; exact y.h.back hz
    · cases hc) (dnT_new (ex.h.back (y.h.back hz)) (y.gh.back hz) hok)⟩⟩
end
end DL
/-! P15: plain: the heights of the way's steps. -/
namespace LP
open PySem PySem.Spec PyProof.Rows L2 DL
theorem pairs_pw {R : Str → Str → Prop} {ps : List Str} {z : Str × Str} (hp : ps.Pairwise R) (h : z ∈ pairsOf ps) : R z.1 z.2 := by
  unfold pairsOf at h
  obtain ⟨p, hpz, hb⟩ := List.mem_flatMap.mp h
  obtain ⟨b, hb2, rfl⟩ := List.mem_map.mp hb
  have hz := List.mem_zipIdx hpz
  simp only [Nat.zero_le, Nat.sub_zero, true_and] at hz
  obtain ⟨h1, h2⟩ := hz
  have hd : ps.drop p.2 = p.1 :: ps.drop (p.2 + 1) := by
    rw [List.drop_eq_getElem?_toList_append, List.getElem?_eq_getElem (by omega), h2]; rfl
  have := hp.sublist (List.drop_sublist p.2 ps)
  rw [hd] at this
  exact (List.pairwise_cons.mp this).1 b hb2
structure Rs (s : Sh) : Prop where
  lt : ∀ r ∈ s.2, tlt r.1 r.2.1 = true
  pw : s.2.Pairwise fun a b => tlt (a.1, a.2.1) (b.1, b.2.1) = true
  hi : ∀ r ∈ s.2, 1 ≤ r.2.2 ∧ r.2.2 ≤ 9
theorem treeE_sl {s : Sh} : (treeE s).Sublist s.2 := by
  have h := (up_sub (treeS_up s) fun n hn => tree_in s n (treeS_mem.mp hn)).map (rgAt s)
  have e : (rangeI s.2.length).map (rgAt s) = s.2 := congrArg Prod.snd (subS_all s)
  rw [e] at h
  exact h
def kyT (a b : Str) : NK := .tup [.text a, .text b]
noncomputable def hKV (s : Sh) : List (NK × PyData) := (treeE s).map fun r => (kyT r.1 r.2.1, .int r.2.2)
theorem hKV_nd {s : Sh} (q : Rs s) : ((hKV s).map (·.1)).Nodup := by
  unfold hKV
  rw [List.map_map]
  refine List.Pairwise.map _ (fun a b h e => ?_) (q.pw.sublist treeE_sl)
  have e : kyT a.1 a.2.1 = kyT b.1 b.2.1 := e
  unfold kyT at e
  injection e with e
  injection e with e1 e
  injection e with e2 _
  injection e1 with e1
  injection e2 with e2
  rw [e1, e2, tlt_irrefl] at h
  cases h
theorem hKV_at {s : Sh} (q : Rs s) {a b : Str} {c : Int} (h : (a, b, c) ∈ treeE s) : getN (hKV s) (kyT a b) = some (.int c) := getN_of_mem (hKV_nd q) (List.mem_map.mpr ⟨_, h, rfl⟩)
def mnS (u v : Str) : Str := if PySem.W.dataLt (.str v) (.str u) = true then v else u
def mxS (u v : Str) : Str := if PySem.W.dataLt (.str u) (.str v) = true then v else u
noncomputable def hOf (s : Sh) (z : Str × Str) : Int := match getN (hKV s) (kyT (mnS z.1 z.2) (mxS z.1 z.2)) with | some (.int c) => c | _ => 0
theorem mn_lt {u v : Str} (h : tlt u v = true) : mnS u v = u ∧ mxS u v = v := by
  have h1 : PySem.W.dataLt (.str u) (.str v) = true := h
  have h2 : PySem.W.dataLt (.str v) (.str u) = false := tlt_asymm h
  unfold mnS mxS
  rw [h1, h2]; exact ⟨rfl, rfl⟩
theorem mn_gt {u v : Str} (h : tlt v u = true) : mnS u v = v ∧ mxS u v = u := by
  have h1 : PySem.W.dataLt (.str v) (.str u) = true := h
  have h2 : PySem.W.dataLt (.str u) (.str v) = false := tlt_asymm h
  unfold mnS mxS
  rw [h1, h2]; exact ⟨rfl, rfl⟩
theorem hOf_at {s : Sh} (q : Rs s) {u v : Str} {c : Int} (h : (u, v, c) ∈ treeE s ∨ (v, u, c) ∈ treeE s) : getN (hKV s) (kyT (mnS u v) (mxS u v)) = some (.int c) := by
  rcases h with h | h
  · have := q.lt _ (treeE_sub h)
    obtain ⟨e1, e2⟩ := mn_lt this
    rw [e1, e2]; exact hKV_at q h
  · have := q.lt _ (treeE_sub h)
    obtain ⟨e1, e2⟩ := mn_gt this
    rw [e1, e2]; exact hKV_at q h
theorem hOf_key {s : Sh} (q : Rs s) {u v : Str} (h : Adj (treeE s) u v) : getN (hKV s) (kyT (mnS u v) (mxS u v)) = some (.int (hOf s (u, v))) := by
  obtain ⟨c, h⟩ := h
  unfold hOf
  rw [hOf_at q h]
theorem hOf_iff {s : Sh} (q : Rs s) {u v : Str} {k : Int} (h : Adj (treeE s) u v) : AdjK (treeE s) k u v ↔ hOf s (u, v) ≤ k := by
  obtain ⟨c, h⟩ := h
  have e : hOf s (u, v) = c := by unfold hOf; rw [hOf_at q h]
  rw [e]
  constructor
  · rintro ⟨c', hk, h'⟩
    have := (hOf_at q h).symm.trans (hOf_at q h')
    injection this with this
    injection this with this
    omega
  · exact fun hk => ⟨c, hk, h⟩
theorem ch_zip {R : Str → Str → Prop} : ∀ {l : List Str}, Ch R l → ∀ z ∈ l.zip (l.drop 1), R z.1 z.2
  | [], _, z, h => by cases h
  | [x], _, z, h => by cases h
  | x :: y :: l, hc, z, h => by
    rw [List.drop_succ_cons, List.drop_zero, List.zip_cons_cons] at h
    rcases List.mem_cons.mp h with rfl | h
    · exact hc.1
    · exact ch_zip (l := y :: l) hc.2 z (by rw [List.drop_succ_cons, List.drop_zero]; exact h)
theorem ch_of_zip {R : Str → Str → Prop} : ∀ {l : List Str}, (∀ z ∈ l.zip (l.drop 1), R z.1 z.2) → Ch R l
  | [], _ => trivial
  | [x], _ => trivial
  | x :: y :: l, h => by
    refine ⟨h (x, y) (by rw [List.drop_succ_cons, List.drop_zero, List.zip_cons_cons]; exact List.mem_cons_self), ch_of_zip (l := y :: l) fun z hz => h z ?_⟩
    rw [List.drop_succ_cons, List.drop_zero] at hz ⊢
    rw [List.zip_cons_cons]
    exact List.mem_cons_of_mem _ hz
theorem ch_hi {s : Sh} (q : Rs s) {l : List Str} (h : Ch (Adj (treeE s)) l) {k : Int} : Ch (AdjK (treeE s) k) l ↔ ∀ z ∈ l.zip (l.drop 1), hOf s z ≤ k := by
  constructor
  · intro hc z hz
    exact (hOf_iff q (ch_zip h z hz)).mp (ch_zip hc z hz)
  · intro hk
    exact ch_of_zip fun z hz => (hOf_iff q (ch_zip h z hz)).mpr (hk z hz)
open Classical in
theorem one_true {s : Sh} {h : Int} {a b : Str} : areOneB s h a b = true ↔ a ∈ s.1 ∧ b ∈ s.1 ∧ Conn s h a b := by unfold areOneB; exact decide_eq_true_iff
theorem way_max {s : Sh} (g : Good s) (q : Rs s) {x y : Str} (hx : x ∈ s.1) (hy : y ∈ s.1) {l : List Str} (hw : wayS s x y = some l) {k : Nat} (hk : leastO s x y = some k) : (∀ z ∈ l.zip (l.drop 1), hOf s z ≤ (k : Int)) ∧ (k = 0 ∨ ∃ z ∈ l.zip (l.drop 1), hOf s z = (k : Int)) := by
  obtain ⟨h1, h2, h3⟩ := find_least hk
  have one : ∀ j : Nat, areOneB s (j : Int) x y = true ↔ ∀ z ∈ l.zip (l.drop 1), hOf s z ≤ (j : Int) := fun j => by
    rw [← ch_hi q (way_sp hw).ch, one_true]
    constructor
    · rintro ⟨_, _, c⟩
      obtain ⟨l', e, hc⟩ := (way_conn g hx).mp c
      rw [hw] at e; cases e; exact hc
    · exact fun hc => ⟨hx, hy, (way_conn g hx).mpr ⟨l, hw, hc⟩⟩
  have hle := (one k).mp h1
  refine ⟨hle, ?_⟩
  by_cases h0 : k = 0
  · exact .inl h0
  · refine .inr ?_
    have hn := h3 (k - 1) (by omega)
    by_cases ex : ∃ z ∈ l.zip (l.drop 1), hOf s z = (k : Int)
    · exact ex
    · exfalso
      have := (one (k - 1)).mpr fun z hz => by
        have h4 := hle z hz
        have h5 : hOf s z ≠ (k : Int) := fun e => ex ⟨z, hz, e⟩
        omega
      rw [this] at hn; cases hn
theorem way_none {s : Sh} (g : Good s) (q : Rs s) {x y : Str} (hx : x ∈ s.1) (hy : y ∈ s.1) : wayS s x y = none ↔ leastO s x y = none := by
  constructor
  · intro h
    cases hl : leastO s x y with
    | none => rfl
    | some k =>
      exfalso
      obtain ⟨h1, _, _⟩ := find_least hl
      obtain ⟨_, _, c⟩ := one_true.mp h1
      obtain ⟨l, e, _⟩ := (way_conn g hx).mp c
      rw [h] at e; cases e
  · intro h
    cases hw : wayS s x y with
    | none => rfl
    | some l =>
      exfalso
      have h9 := find_no h 9 (by decide)
      have hc : Ch (AdjK (treeE s) 9) l := (way_sp hw).ch.imp fun a b ⟨c, hm⟩ => ⟨c, by rcases hm with hm | hm <;> exact (q.hi _ (treeE_sub hm)).2, hm⟩
      have : areOneB s ((9 : Nat) : Int) x y = true := one_true.mpr ⟨hx, hy, (way_conn g hx).mpr ⟨l, hw, hc⟩⟩
      rw [this] at h9; cases h9
end LP
/-! DL39: min(a, b), max(a, b) of two texts; xs[::-1]. -/
namespace DL
open PySem PySem.Spec PyProof.Rows L2
section
variable {prog : Program} {w : World} {A : Around} {E : Value → Shared → Prop} {s : Shared} {Q : Value → Shared → Prop}
theorem cmp_lt_str {a b : Str} {t u : Tok} (hu : A.units + 1 < cLine) : CmpOf prog w A .Lt (fun i v => #[Value.str a t, Value.str b u][i]? = some v) (fun i j => PySem.W.dataLt ([PyData.str a, .str b].getD i .none) ([PyData.str a, .str b].getD j .none)) := fun i j vi vj s Q E hi hj hQ => by
  have at_ : ∀ (i : Nat) v, #[Value.str a t, Value.str b u][i]? = some v → ∃ x t', v = .str x t' ∧ [PyData.str a, .str b].getD i .none = .str x := fun i v h => by
    rcases i with _ | _ | i
    · cases h; exact ⟨a, t, rfl, rfl⟩
    · cases h; exact ⟨b, u, rfl, rfl⟩
    · simp at h
  obtain ⟨x, t1, rfl, e1⟩ := at_ i vi hi
  obtain ⟨y, t2, rfl, e2⟩ := at_ j vj hj
  simp only [e1, e2] at hQ
  exact PySem.W.rcLt_alike (.str x) (.str y) A s _ _ _ _ (.str x t1) (.str y t2) rfl (by intro e; cases e) (by show A.units + min 0 0 < cLine; omega) prog w E Q hQ
theorem cmp_gt_str {a b : Str} {t u : Tok} (hu : A.units + 1 < cLine) : CmpOf prog w A .Gt (fun i v => #[Value.str a t, Value.str b u][i]? = some v) (fun i j => PySem.W.dataLt ([PyData.str a, .str b].getD j .none) ([PyData.str a, .str b].getD i .none)) := fun i j vi vj s Q E hi hj hQ => by
  have at_ : ∀ (i : Nat) v, #[Value.str a t, Value.str b u][i]? = some v → ∃ x t', v = .str x t' ∧ [PyData.str a, .str b].getD i .none = .str x := fun i v h => by
    rcases i with _ | _ | i
    · cases h; exact ⟨a, t, rfl, rfl⟩
    · cases h; exact ⟨b, u, rfl, rfl⟩
    · simp at h
  obtain ⟨x, t1, rfl, e1⟩ := at_ i vi hi
  obtain ⟨y, t2, rfl, e2⟩ := at_ j vj hj
  simp only [e1, e2] at hQ
  exact PySem.W.rcGt_alike (.str x) (.str y) A s _ _ _ _ (.str x t1) (.str y t2) rfl (by intro e; cases e) (by show A.units + min 0 0 < cLine; omega) prog w E Q hQ
theorem two_strs {a b : Str} {t u : Tok} (hh : A.handled = none) (hu : A.units + 64 < cLine) (mx : Bool)
    (h : ∀ h' tk, (∀ c o, s.heap.get? c = some o → h'.get? c = some o) → Q (if (if mx = true then PySem.W.dataLt (.str a) (.str b) else PySem.W.dataLt (.str b) (.str a)) = true then .str b u else .str a t) { s with heap := h', toks := tk }) :
    wpAny (model prog w) A (call (.builtin (if mx = true then "max" else "min")) [.str a t, .str b u]) Q E s := by
  have hT : (s.heap.push { cls := .type "tuple", data := .seq #[.str a t, .str b u] }).IsTuple s.heap.objs.size #[.str a t, .str b u] := ⟨_, Heap.get?_push_size _ rfl, rfl, 0, rfl⟩
  have hsz : (s.heap.push { cls := .type "tuple", data := .seq #[.str a t, .str b u] }).objs.size = s.heap.objs.size + 1 := Heap.size_push ..
  have hold : ∀ {wr : List Addr} {h' : Heap}, (∀ c ∈ wr, c = (s.heap.push { cls := .type "tuple", data := .seq #[.str a t, .str b u] }).objs.size) → (∀ c o, c ∉ wr → ((s.heap.push { cls := .type "tuple", data := .seq #[.str a t, .str b u] }).push { cls := .type "tuple_iterator", data := .fields #[.ref s.heap.objs.size, .int 0 0] }).get? c = some o → h'.get? c = some o) → ∀ c o, s.heap.get? c = some o → h'.get? c = some o := fun {wr h'} hw hk c o e => by
    refine hk c o (fun hm => ?_) (Heap.get?_push_of_some _ (Heap.get?_push_of_some _ e))
    have := Heap.lt_size e
    rw [hw c hm, hsz] at this
    exact absurd this (Nat.not_lt.mpr (Nat.le_succ _))
  have hfp : ∀ c ∈ [(s.heap.push { cls := .type "tuple", data := .seq #[.str a t, .str b u] }).objs.size, s.heap.objs.size], c < ((s.heap.push { cls := .type "tuple", data := .seq #[.str a t, .str b u] }).push { cls := .type "tuple_iterator", data := .fields #[.ref s.heap.objs.size, .int 0 0] }).objs.size := fun c hc => by
    rw [Heap.size_push, hsz]
    rcases List.mem_cons.mp hc with rfl | hc
    · rw [hsz]; exact Nat.lt_succ_self _
    · rcases List.mem_cons.mp hc with rfl | hc
      · exact Nat.lt_succ_of_lt (Nat.lt_succ_self _)
      · cases hc
  cases mx with
  | true =>
    refine call_max_two (wpAny_pyIter_tuple hT ?_)
    refine ⟨_, [_, s.heap.objs.size], [_], _, _, _, _, rfl, Walks.tuple (A := A.in1) hh _ s.heap.objs.size (by rw [hsz]; exact Nat.ne_of_lt (Nat.lt_succ_self _)) #[.str a t, .str b u],
      ⟨⟨_, Heap.get?_push_size _ rfl, rfl, rfl⟩, hT.push _⟩, hfp, by simp, cmp_gt_str (by show A.units + 1 + 1 < cLine; omega), fun v h' tk hP hk => ?_⟩
    have := h h' tk (hold (fun c hc => List.mem_singleton.mp hc) hk)
    have hv : v = if PySem.W.dataLt (.str a) (.str b) = true then .str b u else .str a t := by
      cases hc : PySem.W.dataLt (.str a) (.str b) <;> simp [argBest, hc] at hP <;> simp [hP]
    rw [hv]; exact this
  | false =>
    refine call_min_two (wpAny_pyIter_tuple hT ?_)
    refine ⟨_, [_, s.heap.objs.size], [_], _, _, _, _, rfl, Walks.tuple (A := A.in1) hh _ s.heap.objs.size (by rw [hsz]; exact Nat.ne_of_lt (Nat.lt_succ_self _)) #[.str a t, .str b u],
      ⟨⟨_, Heap.get?_push_size _ rfl, rfl, rfl⟩, hT.push _⟩, hfp, by simp, cmp_lt_str (by show A.units + 1 + 1 < cLine; omega), fun v h' tk hP hk => ?_⟩
    have := h h' tk (hold (fun c hc => List.mem_singleton.mp hc) hk)
    have hv : v = if PySem.W.dataLt (.str b) (.str a) = true then .str b u else .str a t := by
      cases hc : PySem.W.dataLt (.str b) (.str a) <;> simp [argBest, hc] at hP <;> simp [hP]
    rw [hv]; exact this
end
section
variable {X : Cx} {H0 : Bs} {ρ : Env} {e e2 : Expr} {a b : Str} {p1 pos p2 : Pos} {k : Nat}
def rMin2S : List V → Hp → VK → Prop := fun xs H Q => ∃ a b, xs = [.str a, .str b] ∧ Q (.str (if PySem.W.dataLt (.str b) (.str a) = true then b else a)) H
def rMax2S : List V → Hp → VK → Prop := fun xs H Q => ∃ a b, xs = [.str a, .str b] ∧ Q (.str (if PySem.W.dataLt (.str a) (.str b) = true then b else a)) H
theorem call_min2S (hc : X.calm = true) (hu : X.A.units + 64 < cLine) : CallR X (.builtin "min") rMin2S := by
  intro pins s σ H xs us Q I r h
  obtain ⟨a, b, rfl, q⟩ := h
  obtain ⟨u, w', rfl, ⟨t, rfl⟩, ⟨t', rfl⟩⟩ := vals2 r
  refine two_strs (I.ok.hd hc) hu false fun h' tk k => ⟨_, H, I.kept k, ?_, q⟩
  rw [if_neg Bool.false_ne_true]
  split <;> exact ⟨_, rfl⟩
theorem call_max2S (hc : X.calm = true) (hu : X.A.units + 64 < cLine) : CallR X (.builtin "max") rMax2S := by
  intro pins s σ H xs us Q I r h
  obtain ⟨a, b, rfl, q⟩ := h
  obtain ⟨u, w', rfl, ⟨t, rfl⟩, ⟨t', rfl⟩⟩ := vals2 r
  refine two_strs (I.ok.hd hc) hu true fun h' tk k => ⟨_, H, I.kept k, ?_, q⟩
  rw [if_pos rfl]
  split <;> exact ⟨_, rfl⟩
theorem min2S (bt : Bt X.mg) (hc : X.calm = true) (hr : Room k X.A) (ha : DE X H0 ρ e (.str a)) (hb : DE X H0 ρ e2 (.str b)) (hg : Gl X "min" := by rfl) (he : starEach (e :: [e2]) X.env = (false, eval e X.env) :: starEach [e2] X.env := by rfl) (he2 : starEach (e2 :: []) X.env = (false, eval e2 X.env) :: starEach [] X.env := by rfl) (hpl : (backTo pos (starEach [e2] X.env)).any (·.1) = false := by rfl) :
    DE X H0 ρ (.Call (.Name "min" p1) [e, e2] [] pos) (.str (if PySem.W.dataLt (.str b) (.str a) = true then b else a)) := de_callB (call_min2S hc hr.units) (fun vs G H Q ex rs q => by
  obtain rfl := dpAll_strs (ns := [a, b]) rs
  exact ⟨a, b, rfl, q _ G H (Ext.refl ex) (.str _)⟩) hg (bt.at _) (by decide +kernel) (da_cons ha (da_cons hb da_nil he2) he) (by decide) (by decide) he hpl
theorem max2S (bt : Bt X.mg) (hc : X.calm = true) (hr : Room k X.A) (ha : DE X H0 ρ e (.str a)) (hb : DE X H0 ρ e2 (.str b)) (hg : Gl X "max" := by rfl) (he : starEach (e :: [e2]) X.env = (false, eval e X.env) :: starEach [e2] X.env := by rfl) (he2 : starEach (e2 :: []) X.env = (false, eval e2 X.env) :: starEach [] X.env := by rfl) (hpl : (backTo pos (starEach [e2] X.env)).any (·.1) = false := by rfl) :
    DE X H0 ρ (.Call (.Name "max" p1) [e, e2] [] pos) (.str (if PySem.W.dataLt (.str a) (.str b) = true then b else a)) := de_callB (call_max2S hc hr.units) (fun vs G H Q ex rs q => by
  obtain rfl := dpAll_strs (ns := [a, b]) rs
  exact ⟨a, b, rfl, q _ G H (Ext.refl ex) (.str _)⟩) hg (bt.at _) (by decide +kernel) (da_cons ha (da_cons hb da_nil he2) he) (by decide) (by decide) he hpl
/-! ### xs[::-1] -/
theorem fm_congr {α β : Type} {f g : α → Option β} : ∀ l : List α, (∀ x ∈ l, f x = g x) → l.filterMap f = l.filterMap g
  | [], _ => rfl
  | x :: r, h => by
    rw [List.filterMap_cons, List.filterMap_cons, h x List.mem_cons_self, fm_congr r fun y hy => h y (List.mem_cons_of_mem _ hy)]
theorem pick_rev (items : Array Value) : slicePick items none none (some (-1)) = items.toList.reverse.toArray := by
  obtain ⟨l⟩ := items
  unfold slicePick sliceBounds sliceRange
  simp only [Option.getD_some, List.size_toArray]
  congr 1
  have hc : (if (-1 : Int) > 0 then if (if (-1 : Int) > 0 then 0 else (l.length : Int) - 1) < (if (-1 : Int) > 0 then (l.length : Int) else -1) then ((if (-1 : Int) > 0 then (l.length : Int) else -1) - (if (-1 : Int) > 0 then 0 else (l.length : Int) - 1) + -1 - 1) / -1 else 0 else if (if (-1 : Int) > 0 then 0 else (l.length : Int) - 1) > (if (-1 : Int) > 0 then (l.length : Int) else -1) then ((if (-1 : Int) > 0 then 0 else (l.length : Int) - 1) - (if (-1 : Int) > 0 then (l.length : Int) else -1) - -1 - 1) / - -1 else 0).toNat = l.length := by
    simp only [show ¬ ((-1 : Int) > 0) by omega, if_false, Int.neg_neg, Int.ediv_one]
    split <;> omega
  rw [hc, List.filterMap_map]
  have pick : ∀ l : List Value, (List.range l.length).filterMap (fun i => l[i]?) = l := fun l => by
    induction l with
    | nil => rfl
    | cons x r ih =>
      rw [List.length_cons, List.range_succ_eq_map, List.filterMap_cons]
      simp only [List.getElem?_cons_zero, List.filterMap_map]
      congr 1
  refine Eq.trans ?_ (pick l.reverse)
  rw [List.length_reverse]
  refine fm_congr _ fun i hi => ?_
  have hi := List.mem_range.mp hi
  simp only [Function.comp_apply, show ¬ ((-1 : Int) > 0) by omega, if_false]
  rw [List.getElem?_reverse hi]
  have : ((l.length : Int) - 1 + -1 * (i : Int)).toNat = l.length - 1 - i := by omega
  rw [this]
  simp
def tRev (K : PySem.W.Frag) (te : TE) (ts : TO) : TE := fun σ H Q => te σ H fun x H1 => ts σ H1 fun st H2 => st = some (-1) ∧ ∃ a xs, x = .ref a ∧ SqL K H2 a xs ∧ ∀ p, H2 p = none → Q (.ref p) (upd H2 p (.lst xs.reverse))
theorem vals_rev {xs : List V} {us : List Value} (r : Vals xs us) : Vals xs.reverse us.reverse := by
  unfold Vals at r ⊢
  induction r with
  | nil => exact .nil
  | cons h t ih => rw [List.reverse_cons, List.reverse_cons]; exact Paired.snoc ih h
theorem pe_rev {st : Expr} {te : TE} {ts : TO} (he : PE X e te) (hs : PO X (some st) ts) : PE X (.Subscript e (.Slice none none (some st) p2) pos) (tRev X.K te ts) := by
  refine ⟨fun pins s σ H Q I h => ?_⟩
  refine Subscript_ (thn (he.run pins s σ H _ I h) fun v s1 ⟨x, H1, I1, r1, q1⟩ => ?_)
  refine wpAny_Slice ?_
  rw [evalPart_none]
  refine wpAny_pure ?_
  refine wpAny_pure (thn (hs.run pins s1 σ H1 _ I1 q1) fun vs s3 ⟨u, H3, I3, pu, eu, a, xs, ex, hl, q3⟩ => ?_)
  subst eu ex
  cases r1
  have I4 : Inv X pins σ H3 { s3 with heap := s3.heap.push { cls := .type "slice", data := .fields #[.none, .none, vs] } } := I3.kept (t' := s3.toks) fun b ob q => Heap.get?_push_of_some _ q
  obtain ⟨its, r, ht, hz⟩ := I4.list hl
  have hlen := r.length
  show wpAny (model X.prog X.w) X.A (subscriptTail e (.Slice none none (some st) p2) (.ref a) (.ref s3.heap.objs.size)) (EP X pins σ Q) X.xe { s3 with heap := s3.heap.push { cls := .type "slice", data := .fields #[.none, .none, vs] } }
  refine tail_any (ops := [.ref a, .ref s3.heap.objs.size]) ht.isList.typeIs slot_list_getitem.lookup ?_ (by with_unfolding_all rfl)
  refine wpAny_getItem_list_slice ht.isList (Heap.IsSliceOf.new ..) .none .none pu (by decide) ?_ (by rw [List.size_toArray] <;> omega)
  rw [pick_rev]
  refine ⟨.ref _, _, I4.laid (t' := s3.toks) (o := .lst xs.reverse) (fun b ob q => Heap.get?_push_of_some _ q) (Nat.le_refl _) ?_, rfl, q3 _ (I4.hok.fresh (Nat.le_refl _))⟩
  exact ⟨by rw [List.length_reverse]; exact hz, _, 0, vals_rev r, Heap.get?_push_size _ rfl⟩
theorem dpAll_rev {K : PySem.W.Frag} {G : Hp} : ∀ {vs : List V} {ds : List D}, DpAll K G vs ds → DpAll K G vs.reverse ds.reverse
  | _, _, .nil => .nil
  | _, _, .cons h t => by
    rw [List.reverse_cons, List.reverse_cons]
    exact (dpAll_rev t).app (DpAll.one h)
theorem dl_rev {st : Expr} {xs : List D} (ha : DR X H0 ρ e xs) (hs : DE X H0 ρ st (.int (-1))) : DL X H0 ρ (.Subscript e (.Slice none none (some st) p2) pos) xs.reverse :=
  (pe_rev ha (do_some hs)).imp fun σ H Q ⟨G, x, sl, q⟩ => ⟨G, x, sl, fun p vs G1 H1 y h1 r => ⟨G1, y.gh, sl.up y, fun G2 H2 z => ⟨rfl, p, vs, rfl, z.h.seqL h1, fun n hn => q n _ G2 _ ((y.trans z).trans (Ext.heap z.gh (Ex.new hn))) ((y.trans z).h.back hn) (z.gh.back hn) upd_same (dpAll_rev (r.up z.g))⟩⟩⟩
end
end DL
/-! LSet7: len(set(..)) over a list of texts that are apart. -/
namespace LS
open PySem PySem.Spec PyProof.Rows L2 DL LP
section
variable {P : Program} {w : World} {A : Around} {E : Value → Shared → Prop} {s : Shared}
abbrev SetS (P : Program) (w : World) (h : Heap) (a : Addr) (ks : List Str) : Prop := h.SetOf (PySem.strKind P w) a (fun j => decide (j ∈ ks)) ks.length
theorem setS_at {h h' : Heap} {a : Addr} {ks : List Str} (x : SetS P w h a ks) (e : ∀ o, h.get? a = some o → h'.get? a = some o) : SetS P w h' a ks := by
  obtain ⟨o, es, ep, t, ho, r⟩ := x
  exact ⟨o, es, ep, t, e o ho, r⟩
theorem setS_new {h : Heap} {a : Addr} (ho : h.get? a = some (emptySet w)) : SetS P w h a [] :=
  ⟨_, #[], 0, _, ho, ⟨rfl, rfl, rfl⟩, rfl, (fun e he => by simp at he), (by simp), (by decide), (by rfl), rfl⟩
theorem set_update_strs {I : Addr} {fp wr : List Addr} {G : Array GenState → Array GenState → Prop} {n : Nat} {Pv : Nat → Value → Prop} {St : Nat → Shared → Prop} {R : Result → Shared → Prop}
    (W : WalksS P w A.in1 I fp wr G n Pv St) (S : Addr) (hSf : S ∉ fp) (ns : List Str) (nd : ns.Nodup) (hn : n = ns.length) (hb : ns.length + 1 < scanBound) (hval : ∀ i v, Pv i v → ∃ k t, ns[i]? = some k ∧ v = .str k t) :
    ∀ (k i : Nat) (s : Shared), n - i = k → i ≤ n → St i s → SetS P w s.heap S (ns.take i) →
      (∀ s', Moved (S :: wr) G s s' → SetS P w s'.heap S ns → R (.ok (.ret .none)) s') →
      codeAny (model P w) A (.builtin "set.update.loop" ⟨[.ref S, .ref I], []⟩) R s := by
  have hSw : S ∉ wr := fun h => hSf (W.sub _ h)
  have hsub : ∀ b ∈ wr, b ∈ S :: wr := fun b hb => List.mem_cons_of_mem _ hb
  intro k
  induction k with
  | zero =>
    intro i s hk' hi hst hS hR
    have hin : i = n := by omega
    subst hin
    refine codeAny_builtin F.entry_set_update_loop ?_
    rw [Around.under_plainId F.plain_set_update_loop _]
    show wpAny _ A.in1 (pyNext (.ref I) >>= _) _ _ s
    refine wpAny_bind (W.done s _ _ hst fun s' hm => ?_)
    show wpAny _ A.in1 (ret Value.none) _ _ s'
    have e : ns.take i = ns := List.take_of_length_le (by omega)
    rw [e] at hS
    exact wpAny_pure (hR s' (hm.mono hsub) (setS_at hS fun o e => hm.heap S o hSw e))
  | succ k ih =>
    intro i s hk' hi hst hS hR
    have hlt : i < n := by omega
    refine codeAny_builtin F.entry_set_update_loop ?_
    rw [Around.under_plainId F.plain_set_update_loop _]
    show wpAny _ A.in1 (pyNext (.ref I) >>= _) _ _ s
    refine wpAny_bind (W.item i s _ _ hlt hst fun v s' hP hst' hm => ?_)
    obtain ⟨z, t, hz, rfl⟩ := hval i v hP
    have hS' : SetS P w s'.heap S (ns.take i) := setS_at hS fun o e => hm.heap S o hSw e
    have hzn : z ∉ ns.take i := fun hmem => by
      obtain ⟨j, hj, e⟩ := List.mem_iff_getElem.mp hmem
      rw [List.length_take] at hj
      rw [List.getElem_take] at e
      have h1 : ns[j]? = some z := by rw [List.getElem?_eq_getElem (by omega), e]
      have := (List.getElem?_inj (by omega) nd).mp (h1.trans hz.symm)
      omega
    show wpAny _ A.in1 (holding [Value.str z t] (setAdd S (.str z t)) >>= _) _ _ s'
    refine wpAny_bind (wpAny_holding ?_)
    unfold setAdd
    refine wpAny_holding ?_
    have zk : (PySem.strKind P w).is z (.str z t) = true := PySem.Froz.is_str z t
    refine wpAny_bind ((PySem.strKind P w).pyHash (k := z) zk ?_)
    have lt : (ns.take i).length = i := by rw [List.length_take]; omega
    refine wpAny_setAddHashed_of (s := { s' with toks := s'.toks + 1 }) zk rfl hS' (by omega) fun h' hsb hS2 => ?_
    have hS3 : SetS P w h' S (ns.take (i + 1)) := by
      obtain ⟨o, es, ep, t2, ho, hex, hd, hel, hmem, hb2, hf, hsz⟩ := hS2
      refine ⟨o, es, ep, t2, ho, hex, hd, hel, fun j => ?_, hb2, hf, ?_⟩
      · rw [← hmem j, List.take_add_one, hz]
        simp [List.mem_append]
      · rw [hsz, decide_eq_false hzn, if_neg (by decide), List.take_add_one, hz, List.length_append]; rfl
    refine wpAny_pure ⟨plainId_quiet F.plain_set_update_loop _, ih (i + 1) _ (by omega) hlt (W.frame _ s' _ _ hst' (Nat.le_succ _) fun b hb o e => ?_) hS3 fun s'' hm'' hS'' => ?_⟩
    · rw [hsb.2 b (fun h : b = S => hSf (by rw [← h]; exact hb))]; exact e
    · refine hR s'' (Moved.trans W.gtrans ((hm.mono hsub).then_heap (Nat.le_succ _) fun b o hb e => ?_) hm'') hS''
      rw [hsb.2 b (fun h : b = S => hb (by rw [h]; exact List.mem_cons_self))]; exact e
theorem call_setS {l : Addr} {items : Array Value} {ns : List Str} {Q : Value → Shared → Prop} (hh : A.handled = none) (hl : s.heap.IsList l items) (hit : ∀ (i : Nat) v, items[i]? = some v → ∃ k t, ns[i]? = some k ∧ v = Value.str k t) (sz : items.size = ns.length) (nd : ns.Nodup) (hb : ns.length + 1 < scanBound)
    (h : ∀ (h' : Heap) (tk : Nat), SetS P w h' s.heap.objs.size ns → (∀ b o, s.heap.get? b = some o → h'.get? b = some o) → Q (.ref s.heap.objs.size) { s with heap := h', toks := tk }) :
    wpAny (model P w) A (call (.type "set") [.ref l]) Q E s := by
  obtain ⟨c, tl, mro⟩ := F.called_set.mro
  have made := F.called_set.made
  have sub := F.called_set.sub
  refine wpAny_call (codeAny_of_tree ?_)
  show wpAny _ _ (callAny (.type "set") _) _ _ _
  refine wpAny_pure ⟨Code.quiet_builtin _ (by decide +kernel), codeAny_builtin F.entry_type_call ?_⟩
  rw [Around.under_plain (weight_type_call_type "set" [.ref l] []) rfl]
  have n1 := F.called_set.notType
  have n2 := F.called_set.canCreate
  have n3 := F.typeCall_set_1 (.ref l)
  repeat any_goals first | assumption | wp_step
  generalize hN : s.heap.push (emptySet w) = hN1
  have oS : hN1.get? s.heap.objs.size = some (emptySet w) := by rw [← hN]; exact Heap.get?_push_size _ rfl
  have old : ∀ b o, s.heap.get? b = some o → hN1.get? b = some o := fun b o e => by rw [← hN]; exact Heap.get?_push_of_some _ e
  have zN : hN1.objs.size = s.heap.objs.size + 1 := by rw [← hN]; exact Heap.size_push ..
  refine codeAny_mono (code_set_led1 (.ref l) (E := E) (Q₁ := fun obj s1 => obj = .ref s.heap.objs.size ∧ s1 = { s with heap := hN1 }) ⟨rfl, by rw [← hN]⟩) fun r s1 hr => ?_
  cases r with
  | error e => exact hr
  | ok fl =>
    cases fl with
    | ret obj =>
      obtain ⟨rfl, rfl⟩ := hr
      have tS : Shared.TypeIs { s with heap := hN1 } (.ref s.heap.objs.size) "set" := ⟨_, oS, rfl⟩
      have i1 := F.called_set.init.lookup
      have i2 := F.called_set.init.bind (.ref s.heap.objs.size)
      repeat any_goals first | assumption | wp_step
      refine codeAny_mono (codeAny_call_builtin (R := wants (fun r s2 => r = .none ∧ ∃ h' tk, s2 = { s with heap := h', toks := tk } ∧ SetS P w h' s.heap.objs.size ns ∧ (∀ b o, s.heap.get? b = some o → h'.get? b = some o)) E)
        F.called_set.init.plain F.entry_set_init (check_set_init_1 tS ?_)) fun r2 s2 hr2 => ?_
      · obtain ⟨ol, hol, hcl, nl, hdl⟩ := hl
        obtain ⟨ocls, odict, odata, oslots⟩ := ol
        dsimp only at hcl hdl
        subst hcl hdl
        have ol1 := old _ _ hol
        have x1 := F.sub_list_set
        have x2 := F.sub_list_frozenset
        have x3 : (Value.type "list" == Value.type "dict") = false := by decide
        have l1 : hN1.IsList l items := ⟨_, ol1, rfl, nl, rfl⟩
        unfold Builtin.«set.__init__» noKeywords Builtin.Frozenset.updateFrom
        generalize hPI : pyIter = PI
        wp_walk
        subst hPI
        refine wpAny_pyIter_list l1 (wpAny_bind (wpAny_runValue ?_))
        have lS : l < s.heap.objs.size := Heap.lt_size hol
        have ne1 : l ≠ hN1.objs.size := by rw [zN]; exact Nat.ne_of_lt (Nat.lt_succ_of_lt lS)
        have ne2 : s.heap.objs.size ∉ [hN1.objs.size, l] := by
          rw [zN]
          simp only [List.mem_cons, List.not_mem_nil, or_false, not_or]
          exact ⟨Nat.ne_of_lt (Nat.lt_succ_self _), Nat.ne_of_gt lS⟩
        refine set_update_strs ((Walks.list (by simp [hh]) _ l ne1 items).toS) s.heap.objs.size ne2 ns nd sz hb (fun i v hv => ?_) (items.size - 0) 0 _ rfl (Nat.zero_le _)
          ⟨⟨_, Heap.get?_push_size _ rfl, rfl, rfl⟩, l1.push _⟩ (setS_new (Heap.get?_push_of_some _ oS)) fun s' hm S2 => ?_
        · exact hit i v hv
        · have kp : ∀ b o, s.heap.get? b = some o → s'.heap.get? b = some o := fun b o e => by
            have hb := Heap.lt_size e
            refine hm.heap b o (fun z => ?_) (Heap.get?_push_of_some _ (old b o e))
            rcases List.mem_cons.mp z with z | z
            · rw [z] at hb; exact Nat.lt_irrefl _ hb
            · exact absurd hb (by rw [List.mem_singleton.mp z]; exact Nat.not_lt.mpr (by show s.heap.objs.size ≤ hN1.objs.size; rw [zN]; exact Nat.le_succ _))
          obtain ⟨h', g2, d', tk', os'⟩ := s'
          obtain rfl : g2 = s.gens := hm.gens
          obtain rfl : d' = s.drawn := hm.drawn
          obtain rfl : os' = s.os := hm.os
          exact wpAny_pure (wpAny_pure ⟨rfl, h', tk', rfl, S2, kp⟩)
      · cases r2 with
        | error e => exact hr2
        | ok fl2 =>
          cases fl2 with
          | ret v2 =>
            obtain ⟨rfl, h', tk, rfl, S2, kp⟩ := hr2
            repeat any_goals first | assumption | wp_step
            exact h h' tk S2 kp
          | _ => exact hr2.elim
    | _ => exact hr.elim
end
section
variable {X : Cx}
def SetSO (X : Cx) (a : Addr) (ks : List Str) : HO := .ext fun h => SetS X.prog X.w h a ks
def rMakeS (X : Cx) : List V → Hp → VK → Prop := fun xs H Q => ∃ (l : Addr) (ns : List Str), xs = [V.ref l] ∧ SqL X.K H l (ns.map V.str) ∧ ns.Nodup ∧ ns.length + 1 < scanBound ∧ ∀ a, H a = none → Q (.ref a) (upd H a (SetSO X a ns))
theorem strs_at : ∀ {ns : List Str} {us : List Value}, Vals (ns.map V.str) us → ∀ (i : Nat) v, us[i]? = some v → ∃ k t, ns[i]? = some k ∧ v = .str k t
  | [], us, r, i, v, h => by rw [List.map_nil] at r; cases r; simp at h
  | n :: ns, us, r, i, v, h => by
    rw [List.map_cons] at r
    cases r with
    | cons r1 r2 =>
      obtain ⟨t, rfl⟩ := (show ∃ t, _ = Value.str n t from r1)
      cases i with
      | zero => cases h; exact ⟨n, t, rfl, rfl⟩
      | succ i => exact strs_at r2 i v (by simpa using h)
theorem cr_makeS (hc : X.calm = true) : CallR X (.type "set") (rMakeS X) := by
  intro pins s σ H xs us Q I r h
  obtain ⟨l, ns, rfl, hl, nd, hz, q⟩ := h
  rw [Vals.ref1 r]
  obtain ⟨its, rv, pl, _⟩ := I.list hl
  have hn : H s.heap.objs.size = none := I.hok.fresh (Nat.le_refl _)
  have hlen := Vals.length rv
  rw [List.length_map] at hlen
  refine call_setS (ns := ns) (I.ok.hd hc) pl.isList (fun i v hv => strs_at rv i v (by simpa using hv)) (by simp [hlen]) nd hz fun h' tk R kp => ?_
  refine ⟨.ref s.heap.objs.size, _, I.laid (t' := tk) (o := SetSO X s.heap.objs.size ns) kp (Nat.le_refl _) ⟨R, let ⟨o, _, _, _, ho, _⟩ := R; ⟨o, ho⟩, fun h1 h2 x e => setS_at x e⟩, rfl, q _ hn⟩
def rLenS (X : Cx) : List V → Hp → VK → Prop := fun xs H Q => ∃ (a : Addr) (ns : List Str), xs = [V.ref a] ∧ H a = some (SetSO X a ns) ∧ Q (.int (ns.length : Nat)) H
theorem cr_lenS : CallR X (.builtin "len") (rLenS X) := by
  intro pins s σ H xs us Q I r h
  obtain ⟨a, ns, rfl, ha, q⟩ := h
  rw [Vals.ref1 r]
  obtain ⟨⟨o, es, ep, t, ho, hex, hd, hel, hmem, hb, hf, hsz⟩, _⟩ := (show ObjOk X.prog X.w H s.heap a (SetSO X a ns) from I.hok a _ ha)
  refine call_len_set ho hex hd hf (by have : es.size < 4096 := hb; omega) ?_
  rw [hsz]
  exact ⟨V.int _, H, I.tok _, ⟨_, rfl⟩, q⟩
theorem lenSetS {H0 : Bs} {ρ : DL.Env} {e : Expr} {p1 p2 p3 p4 : Pos} {ns : List Str} (bt : Bt X.mg) (hc : X.calm = true) (hz : ns.length ≤ 1000) (nd : ns.Nodup) (ha : DR X H0 ρ e (ns.map .str)) (hg : Gl X "len" := by rfl) (hg2 : Gl X "set" := by rfl) (he : starEach (e :: []) X.env = (false, eval e X.env) :: starEach [] X.env := by rfl) (hpl : (backTo p3 (starEach [] X.env)).any (·.1) = false := by rfl)
    (he2 : starEach ((.Call (.Name "set" p2) [e] [] p3) :: []) X.env = (false, eval (.Call (.Name "set" p2) [e] [] p3) X.env) :: starEach [] X.env := by rfl) (hpl2 : (backTo p4 (starEach [] X.env)).any (·.1) = false := by rfl) :
    DE X H0 ρ (.Call (.Name "len" p1) [.Call (.Name "set" p2) [e] [] p3] [] p4) (.int (ns.length : Nat)) := by
  refine (pe_callB cr_lenS hg (bt.at _) (by decide +kernel) (pa_one (pe_callTy (cr_makeS hc) hg2 (bt.at _) (by decide +kernel) (pa_one ha he) (by decide) (by decide) he hpl) he2) (by decide) (by decide) he2 hpl2).imp fun σ H Q ⟨G, x, sl, q⟩ => ⟨G, x, sl, fun p vs G1 H1 y h rs => ?_⟩
  obtain rfl := dpAll_strs rs
  refine ⟨p, ns, rfl, h, nd, by have : scanBound = 4096 := rfl; omega, fun a hn => ?_⟩
  have x2 : Ext G1 H1 G1 (upd H1 a (SetSO X a ns)) := Ext.heap y.gh (Ex.new hn)
  exact ⟨a, ns, rfl, upd_same, q _ G1 _ (y.trans x2) (.int _)⟩
end
end LS
/-! L1 (k20): law. -/
namespace LP
open PySem PySem.Spec PyProof.Rows L2 DL L2H LamX LQ
abbrev qLam : Str := (("law" : Str) ++ ".<locals>.") ++ "<lambda>"
abbrev fL (p : Addr) (ns : List Int) (a2 a3 a4 a5 a6 a7 a8 a9 a10 a11 a12 a13 : Sl) : Fam := fun x k => [.dat (scriptD ns), .own [.int x, .int k] (some p), a2, a3, a4, a5, a6, a7, a8, a9, a10, a11, a12, a13, .un, .un, .un]
theorem Dsh.rss {n high : Nat} {s : Sh} (d : Dsh n high s) (hh : high ≤ 10) : Rs s := by
  have g := d.good hh
  obtain ⟨rs, e, h1, h2, h3⟩ := d.rs
  injection e with e
  have e2 : s.2 = rs := (List.map_inj_right fun a b h => rgT_inj h).mp e
  rw [← e2] at h2 h3
  exact ⟨fun r hr => pairs_pw g.up (h2 r hr).1, h3, fun r hr => (h2 r hr).2⟩
def badP : List D := [.none, .int 5, .str "zed", .tuple [.str "bay"]]
theorem badP_no {n high : Nat} {s : Sh} (d : Dsh n high s) : ∀ b ∈ badP, isPoolD s.1 b = false := by
  have hz : ("zed" : Str) ∉ s.1 := fun h => by
    rw [d.ps] at h
    have := List.mem_of_mem_take h
    exact absurd this (by decide +kernel)
  intro b hb
  simp only [badP, List.mem_cons, List.not_mem_nil, or_false] at hb
  rcases hb with rfl | rfl | rfl | rfl
  · rfl
  · rfl
  · exact decide_eq_false hz
  · rfl
section
variable {P : Program} {w : World} {K : PySem.W.Frag} {mg : Str → Option Value} {base : Heap}
/-- the frame between the turns -/
abbrev Fr1 (P : Program) (w : World) (p : Addr) (ns : List Int) (s : Sh) (h : Addr) (x k : Int) (ρ : DL.Env) : Prop := ∃ a5 a6 a7 a11 a12, ρ = fL p ns (.dat (shT s)) (.dat (.list ((treeE s).map rgT))) (.thg (dnT P w h (hKV s))) a5 a6 a7 .un .un .un a11 a12 .un x k
theorem k_law (T : Tx K mg) {CS f c Pt : Addr} {fd : FuncData} {Tb : List (Addr × Str)} (Rf : Refs K mg CS) (Dl : DefC K mg "law" s_law p_law c f fd) (hTB : TabB base mg c Pt) (hmem : (Pt, qLam) ∈ Tb) (huniq : ∀ p ∈ Tb, p.1 = Pt → p.2 = qLam) :
    FnOk P w K mg base (L2N.CX P w) 15 f fd p_law (spLaw K Tb) := by
  refine Dl.ok sc_law (fun _ => rfl) fun ns hz A outer sh H G E hr ng tk hp hF => ?_
  have hz : ns.length ≤ 1000 := hz
  have bt := T.bt
  have nd := sc_law.nd
  have hC : LamC (cxOf (L2N.CX P w) P w K mg base n_law "law" (defScope s_law) f (.ref c) A outer sh H E) Tb c Pt := ⟨hTB, rfl, hmem, huniq⟩
  have kS := (k_any_shore (P := P) (w := w) (base := base) T).mono (k := 14) (by decide)
  have kLe := (k_least_tree (P := P) (w := w) (base := base) T).mono (k := 14) (by decide)
  have kWa := (k_way_in (P := P) (w := w) (base := base) T).mono (k := 14) (by decide)
  have kWa12 := (k_way_in (P := P) (w := w) (base := base) T).mono (k := 12) (by decide)
  have kOn := (k_one_from (P := P) (w := w) (base := base) T).mono (k := 14) (by decide)
  refine ds_rounds (I := fun ρ => ρ = startE n_law [scriptD ns]) (d := 1) hF (pe_rounds (m := 3) (k_rounds (P := P) (w := w) (base := base) T) (hr.mono (by decide)) (da_cons (v 0) (da_cons de_int da_nil)) hz (by decide) rfl) rfl (fun ρ' h => by subst h; rfl) (fun p x0 ρ' F hρ hF hE => ?_) (fun ρ' h => ds_ret de_bl rfl) hp rfl nd
  subst hρ
  refine dsx_at (E := fL p ns .un .un .un .un .un .un .un .un .un .un .un .un) x0 0 ?_
  refine dsx_set (i := 2) (S := resShore 9 6) (dx_call (i := 1) (p := p) kS (6, 9) hr ⟨fun _ _ => rfl, fun _ _ _ _ => rfl⟩ (fun x k => da_cons de_int (da_cons de_int da_nil)) ⟨by decide, by decide, by decide⟩ (fun d h => h) (by rfl)) (fun d hd => ?_) nd
  obtain ⟨n0, s, rfl, ds, hn⟩ := hd
  intro x k
  have g := ds.good (by decide)
  obtain ⟨is1, tm1⟩ := ds.facts (by decide)
  have q := ds.rss (by decide)
  have ten := g.ten
  have eT := least_tree_eq g q.hi
  have hR : InR s (treeS s) := fun n hn => tree_in s n (treeS_mem.mp hn)
  have hTl : (treeS s).length ≤ 10 := Nat.le_trans (sub_in (up_sub (treeS_up s) hR)).2 ten
  have lE : leastTO (shT s) = .ok (intsD (treeS s)) := by unfold leastTO; rw [if_pos is1, shOf_shT', eT]
  refine ds_setLc (i := 3) (own := [("_law_number", 10)]) (xs := treeS s) (enc := PyData.int) (fun _ => true) (fun n => rgT (rgAt s n)) rfl nd (di_tup (de_call kLe (shT s) hr (da_cons (v 2) da_nil) tm1 lE rfl)) (blkOk_by (N := n_law) (sc := defScope s_law) (by decide +kernel)) (by omega) (fun n hn => ?_) ?_ (sw_true rfl rfl rfl rfl)
  · exact ⟨_, _, fun j h => h, fun s' H C cl fp => ⟨dg_name (i := 10) nd, dts_nil, fun _ => de_ix ix_tup (od_ixT (rg_at (hR n hn))) (de_ix ix_tup (od_ixT (xs := [strsD s.1, .tuple (s.2.map rgT)]) rfl) (v 2) de_int) (v 10)⟩⟩
  rw [List.filter_eq_self.mpr fun _ _ => rfl, show (treeS s).map (fun n => rgT (rgAt s n)) = (treeE s).map rgT by rw [List.map_map]; rfl]
  refine ds_settle 3 rfl ?_
  have hEl : (treeE s).length ≤ 10 := by rw [List.length_map]; exact hTl
  refine ds_newT (i := 4) (S := fun t => ∃ a, t = dnT P w a (hKV s)) (pe_dictN (kvs := hKV s) bt rfl hr (fun p hp => ?_) (hKV_nd q) (dr_to (dl_r (dl_map (xs := treeE s) (enc := rgT) (own := [("_law_one", 11), ("_law_other", 12), ("_law_high", 13)]) (fun r => .tuple [.tuple [.str r.1, .str r.2.1], .int r.2.2]) rfl nd (di_list (v 3)) (blkOk_by (N := n_law) (sc := defScope s_law) (by decide +kernel)) (by omega) fun r hr2 => ?_)) (by unfold hKV; simp only [List.map_map]; rfl))) (fun t ht => ?_) nd
  · obtain ⟨r, _, rfl⟩ := List.mem_map.mp hp
    exact ⟨Nat.le_of_ble_eq_true rfl, _, rfl⟩
  · exact ⟨_, _, fun j h => h, fun s' H C cl fp => ⟨dg_tup (ds := [.str r.1, .str r.2.1, .int r.2.2]) rfl (dgs_cons (dg_name (i := 11) nd) (dgs_cons (dg_name (i := 12) nd) (dgs_cons (dg_name (i := 13) nd) dgs_nil))), dts_nil, fun _ => de_tup (da_cons (de_tup (da_cons (v 11) (da_cons (v 12) da_nil))) (da_cons (v 13) da_nil))⟩⟩
  obtain ⟨ha, rfl⟩ := ht
  have poolsOk : s.1.length ≤ 6 := g.six
  refine ds_for (items := s.1.map .str) (fun _ => Fr1 P w p ns s ha x k) (Fr1 P w p ns s ha x k) (di_tup (de_ix ix_tup (od_ixT (xs := [strsD s.1, .tuple (s.2.map rgT)]) rfl) (v 2) de_int)) ⟨_, _, _, _, _, rfl⟩ ?_ (fun ρ' h => h) ?_ hp rfl
  · rintro i d ρ' hd ⟨a5, a6, a7, a11, a12, rfl⟩
    rw [List.getElem?_map] at hd
    cases hc : s.1[i]? with
    | none => rw [hc] at hd; cases hd
    | some one =>
      rw [hc] at hd
      cases hd
      have h1 := List.mem_of_getElem? hc
      refine ⟨_, _, dg_name (i := 11) nd, ?_⟩
      refine ds_for (items := s.1.map .str) (fun _ ρ => ∃ a5 a6 a7 a12, ρ = fL p ns (.dat (shT s)) (.dat (.list ((treeE s).map rgT))) (.thg (dnT P w ha (hKV s))) a5 a6 a7 .un .un .un (.dat (.str one)) a12 .un x k) (Fr1 P w p ns s ha x k) (di_tup (de_ix ix_tup (od_ixT (xs := [strsD s.1, .tuple (s.2.map rgT)]) rfl) (v 2) de_int)) ⟨_, _, _, _, rfl⟩ ?_ (fun ρ' ⟨a5, a6, a7, a12, e⟩ => ⟨a5, a6, a7, _, a12, e⟩) (fun ρ' h => ds_nil h) hp rfl
      rintro j d ρ' hd ⟨a5, a6, a7, a12, rfl⟩
      rw [List.getElem?_map] at hd
      cases hc2 : s.1[j]? with
      | none => rw [hc2] at hd; cases hd
      | some other =>
        rw [hc2] at hd
        cases hd
        have h2 := List.mem_of_getElem? hc2
        refine ⟨_, _, dg_name (i := 12) nd, ?_⟩
        have pool : ∀ {z : Str}, z ∈ s.1 → isPoolD s.1 (.str z) = true := fun h => decide_eq_true h
        have wE : ∀ {a b : Str}, a ∈ s.1 → b ∈ s.1 → withTwo (shT s) (.str a) (.str b) (fun s a b => wayD (wayS s a b)) = .ok (wayD (wayS s a b)) := fun {a b} ha hb => by
          unfold withTwo; rw [if_pos is1, shOf_shT', if_pos (pool ha), if_pos (pool hb)]; rfl
        have oE : withTwo (shT s) (.str one) (.str other) (fun s a b => optD (leastO s a b)) = .ok (optD (leastO s one other)) := by
          unfold withTwo; rw [if_pos is1, shOf_shT', if_pos (pool h1), if_pos (pool h2)]; rfl
        refine ds_par (i := 5) (j := 6) (d1 := wayD (wayS s one other)) (d2 := optD (leastO s one other)) (de_call kWa (shT s, .str one, .str other) hr (da_cons (v 2) (da_cons (v 11) (da_cons (v 12) da_nil))) tm1 (wE h1 h2) rfl) (de_call kOn (shT s, .str one, .str other) hr (da_cons (v 2) (da_cons (v 11) (da_cons (v 12) da_nil))) tm1 oE rfl) ?_ rfl nd
        have wn := way_none g q h1 h2
        have isn : DL.isNone (wayD (wayS s one other)) = DL.isNone (optD (leastO s one other)) := by
          rw [wayD_none]
          cases hq : leastO s one other with
          | none => rw [wn.mpr hq]; rfl
          | some k =>
            cases hq2 : wayS s one other with
            | none => rw [wn.mp hq2] at hq; cases hq
            | some l => rfl
        refine ds_ifF (dt_cmp (op_neP hr.units) (od_neP (da := .bool (DL.isNone (wayD (wayS s one other)))) (db := .bool (DL.isNone (optD (leastO s one other)))) rfl rfl (.inl (Nat.zero_le _))) (isNe (v 5)) (isNe (v 6))) ?_ (by rw [bool_eqv, isn, decide_eq_true rfl]; rfl)
        cases hw : wayS s one other with
        | none => exact ds_ifF (notNt (v 5)) (ds_nil ⟨_, _, _, _, rfl⟩)
        | some l =>
          cases hk : leastO s one other with
          | none => rw [wn.mpr hk] at hw; cases hw
          | some m =>
            obtain ⟨hmax, hmem2⟩ := way_max g q h1 h2 hw hk
            have sp := way_sp hw
            have hll : l.length ≤ 6 := Nat.le_trans (nodup_len sp.nd (sp_in g h1 sp)) poolsOk
            refine ds_if (fun ρ => ∃ a5 a6 a7 a12, ρ = fL p ns (.dat (shT s)) (.dat (.list ((treeE s).map rgT))) (.thg (dnT P w ha (hKV s))) a5 a6 a7 .un .un .un (.dat (.str one)) a12 .un x k) (notNt (v 5)) (fun _ => ?_) (fun z => by cases z) fun ρ' h => ds_nil h
            obtain ⟨r, el⟩ := sp.cons_
            obtain ⟨r2, el2⟩ : ∃ r2, l = r2 ++ [other] := by
              have := sp.last
              rw [List.getLast?_eq_some_iff] at this
              exact this
            have at0 : atI (l.map PyData.str) 0 = some (PyData.str one) := by rw [el, List.map_cons]; exact atI_zero
            have atL : atI (l.map PyData.str) (-1) = some (PyData.str other) := by rw [el2, List.map_append]; exact atI_last
            refine ds_ifF (dt_w (dw_orF (neS hr (de_ixR at0 (de_r (v 5)) de_int) (v 11)) (dw_orF (neS hr (de_ixR atL (de_r (v 5)) (de_neg de_int)) (v 12)) (dw_or1 (neI hr (LS.lenSetS (ns := l) bt rfl (by omega) sp.nd (de_r (v 5))) (de_to (lenR bt (de_r (v 5))) (by rw [List.length_map])))) (by rw [decide_eq_true rfl]; rfl)) (by rw [decide_eq_true rfl]; rfl))) ?_ (by rw [decide_eq_true rfl]; rfl)
            refine ds_setLc (i := 7) (own := [("_law_here", 14), ("_law_there", 15)]) (xs := l.zip (l.drop 1)) (enc := fun z => .tuple [.str z.1, .str z.2]) (fun _ => true) (fun z => .tuple [.str (mnS z.1 z.2), .str (mxS z.1 z.2)]) rfl nd (di_to (zipL (ds := l.map .str) (ds' := (l.drop 1).map .str) bt (v 5) (dl_e (dl_to (dl_slR (l := some 1) (u := none) (de_r (v 5)) (do_some de_int) do_none) (by rw [cut1, List.map_drop])))) (by rw [zipWith_map, List.zip_map, List.map_map]; rfl)) (blkOk_by (N := n_law) (sc := defScope s_law) (by decide +kernel)) (by rw [List.length_zip]; omega) (fun z hz => ?_) ?_ (sw_true rfl rfl rfl rfl)
            · exact ⟨_, _, fun j h => h, fun s' H C cl fp => ⟨dg_tup (ds := [.str z.1, .str z.2]) rfl (dgs_cons (dg_name (i := 14) nd) (dgs_cons (dg_name (i := 15) nd) dgs_nil)), dts_nil, fun _ => de_tup (da_cons (min2S bt rfl hr (v 14) (v 15)) (da_cons (max2S bt rfl hr (v 14) (v 15)) da_nil))⟩⟩
            rw [List.filter_eq_self.mpr fun _ _ => rfl]
            refine ds_settle 7 rfl ?_
            have hzl : (l.zip (l.drop 1)).length ≤ 100000 := by rw [List.length_zip]; omega
            refine ds_ifF (neNil hr (xs := ((l.zip (l.drop 1)).filter fun _ => false).map fun z => .tuple [.str (mnS z.1 z.2), .str (mxS z.1 z.2)]) (by rw [List.filter_eq_nil_iff.mpr fun _ _ => Bool.false_ne_true]; rfl) (dl_r (dl_lc (xs := l.zip (l.drop 1)) (enc := fun z => .tuple [.str (mnS z.1 z.2), .str (mxS z.1 z.2)]) (own := [("_law_step", 16)]) (fun _ => false) (fun z => .tuple [.str (mnS z.1 z.2), .str (mxS z.1 z.2)]) rfl nd (di_list (v 7)) (blkOk_by (N := n_law) (sc := defScope s_law) (by decide +kernel)) hzl fun z hz => ?_))) ?_ (by rw [List.filter_eq_nil_iff.mpr fun _ _ => Bool.false_ne_true]; rfl)
            · exact ⟨_, _, fun j h => h, fun s' H C cl fp => ⟨dg_name (i := 16) nd, dts_one (dt_to (dt_nnin (ks := [.text (mnS z.1 z.2), .text (mxS z.1 z.2)]) hr (v 16) (dn_name 4) (Nat.le_of_ble_eq_true rfl)) (by
                rw [show getN (hKV s) (.tup [.text (mnS z.1 z.2), .text (mxS z.1 z.2)]) = _ from hOf_key q (ch_zip sp.ch z hz)]; rfl)), fun _ => v 16⟩⟩
            refine ds_ifF (neI hr (maxR (ns := 0 :: (l.zip (l.drop 1)).map (hOf s)) (m := (m : Int)) bt rfl ?_ ?_ (dr_to (dl_r (dl_cat (dm_new (dl_lst (da_cons de_int da_nil))) (dm_new (dl_map (xs := l.zip (l.drop 1)) (enc := fun z => .tuple [.str (mnS z.1 z.2), .str (mxS z.1 z.2)]) (own := [("_law_step", 16)]) (fun z => .int (hOf s z)) rfl nd (di_list (v 7)) (blkOk_by (N := n_law) (sc := defScope s_law) (by decide +kernel)) hzl fun z hz => ?_)) ?_)) ?_)) (v 6)) ?_ (by rw [decide_eq_true rfl]; rfl)
            · rcases hmem2 with h0 | ⟨z, hz, e⟩
              · rw [h0]; exact List.mem_cons_self
              · exact List.mem_cons_of_mem _ (List.mem_map.mpr ⟨z, hz, e⟩)
            · intro y hy
              rcases List.mem_cons.mp hy with rfl | hy
              · omega
              · obtain ⟨z, hz, rfl⟩ := List.mem_map.mp hy
                exact hmax z hz
            · exact ⟨_, _, fun j h => h, fun s' H C cl fp => ⟨dg_name (i := 16) nd, dts_nil, fun _ => de_nget (ks := [.text (mnS z.1 z.2), .text (mxS z.1 z.2)]) hr (dn_name 4) (v 16) (Nat.le_of_ble_eq_true rfl) (hOf_key q (ch_zip sp.ch z hz))⟩⟩
            · rw [List.length_singleton, List.length_map, List.length_zip]; omega
            · rw [List.map_cons, List.map_map]; rfl
            have rE := wE h2 h1
            rw [way_rev g h1 hw] at rE
            have wpl : ∀ t : List Str, (PyData.list (t.map .str)).plain = true := fun t => PySem.W.plainAll_map t
            refine ds_ifF (dt_cmp (op_neP hr.units) (od_neP (da := .list (l.reverse.map .str)) (db := .list (l.reverse.map .str)) (wpl _) (wpl _) (.inl (Nat.le_trans (PySem.W.Datum.depth_le l.reverse) (by decide)))) (de_call kWa (shT s, .str other, .str one) hr (da_cons (v 2) (da_cons (v 12) (da_cons (v 11) da_nil))) tm1 rE rfl) (dl_e (dl_to (dl_rev (de_r (v 5)) (de_neg de_int)) (by rw [List.map_reverse])))) (ds_nil ⟨_, _, _, _, rfl⟩) (by
              rw [show PyData.eqv (.list (l.reverse.map .str)) (.list (l.reverse.map .str)) = decide (l.reverse = l.reverse) from PySem.W.Datum.eqv l.reverse l.reverse, decide_eq_true rfl]; rfl)
  rintro ρ' ⟨a5, a6, a7, a11, a12, rfl⟩
  obtain ⟨p0, pr, ep⟩ : ∃ p0 pr, s.1 = p0 :: pr := by
    cases e : s.1 with
    | nil => have := g.two; rw [e] at this; simp at this
    | cons a b => exact ⟨a, b, rfl⟩
  have hp0 : p0 ∈ s.1 := by rw [ep]; exact List.mem_cons_self
  refine ds_for (items := badP) (fun _ ρ => ∃ x k a8 a9, ρ = fL p ns (.dat (shT s)) (.dat (.list ((treeE s).map rgT))) (.thg (dnT P w ha (hKV s))) a5 a6 a7 a8 a9 .un a11 a12 .un x k) (fun ρ => ∃ x k a8 a9, ρ = fL p ns (.dat (shT s)) (.dat (.list ((treeE s).map rgT))) (.thg (dnT P w ha (hKV s))) a5 a6 a7 a8 a9 .un a11 a12 .un x k) (di_list (dl_e (dl_lst (da_cons de_non (da_cons de_int (da_cons de_str (da_cons (de_tup (da_cons de_str da_nil)) da_nil)))) (Nat.le_of_ble_eq_true rfl)))) ⟨x, k, _, _, rfl⟩ ?_ (fun ρ' h => h) ?_ hp rfl
  · rintro i d ρ' hd ⟨x, k, a8, a9, rfl⟩
    have n1 := badP_no ds d (List.mem_of_getElem? hd)
    refine ⟨_, _, dg_name (i := 8) nd, ?_⟩
    refine dsx_at (E := fL p ns (.dat (shT s)) (.dat (.list ((treeE s).map rgT))) (.thg (dnT P w ha (hKV s))) a5 a6 a7 (.dat d) a9 .un a11 a12 .un) x k ?_
    refine dsx_setL (i := 9) (Ss := fun l => l = [refusedD "BadPool"]) (dlx_lst (dxs_imp (dxs_cons (dx_ref (n := "BadPool") (k := 12) T Rf hF hC kWa12 (shT s, d, .none) hr (lamS_by (sc := defScope s_law) (by decide +kernel)) (fun A outer s' H' E9 f c' x k => da_cons (v 2) (da_cons (v 8) (da_cons de_non da_nil))) tm1 ?_) (dxs_nil (Ss := fun l => l = []) rfl)) (fun l ⟨d1, r, e, e1, e2⟩ => by rw [e, e1, e2])) (fun l hl => by rw [hl]; exact Nat.le_of_ble_eq_true rfl)) (fun l hl => ?_) nd
    · show withTwo (shT s) d .none _ = _
      unfold withTwo
      rw [if_pos is1, shOf_shT', n1]; rfl
    subst hl
    refine dsx_app (i := 9) (S := fun d => d = refusedD "BadPool") (ds := [refusedD "BadPool"]) (fun _ _ => rfl) (dx_ref (n := "BadPool") (k := 12) T Rf hF hC kWa12 (shT s, .str p0, d) hr (lamS_by (sc := defScope s_law) (by decide +kernel)) (fun A outer s' H' E9 f c' x k => da_cons (v 2) (da_cons (de_ix ix_tup (od_ixT (xs := s.1.map .str) (by rw [ep, List.map_cons]; exact atI_zero)) (de_ix ix_tup (od_ixT (xs := [strsD s.1, .tuple (s.2.map rgT)]) rfl) (v 2) de_int) de_int) (da_cons (v 8) da_nil))) tm1 ?_) (Nat.le_of_ble_eq_true rfl) (fun d2 hd2 => fun x k => ?_)
    · show withTwo (shT s) (.str p0) d _ = _
      unfold withTwo
      rw [if_pos is1, shOf_shT', if_pos (show isPoolD s.1 (.str p0) = true from decide_eq_true hp0), n1]; rfl
    subst hd2
    refine ds_ifF (p := !PyData.eqv (.list [refusedD "BadPool", refusedD "BadPool"]) (.list [refusedD "BadPool", refusedD "BadPool"])) (dt_cmpL (op_neP hr.units) (od_neL (by decide +kernel) (by decide +kernel) (.inl (by decide +kernel))) (vo 9) (dl_e (dl_rep (ds := [refusedD "BadPool"]) (k := 2) (dm_new (dl_lst (da_cons (de_tup (da_cons de_str (da_cons de_str da_nil))) da_nil))) de_int (by decide) (Nat.le_of_ble_eq_true rfl)))) (ds_nil ⟨x, k, _, _, rfl⟩) (by decide +kernel)
  · rintro ρ' ⟨x, k, a8, a9, rfl⟩
    exact ds_fg [2, 3, 4, 5, 6, 7, 8, 9, 11, 12] (ds_nil rfl)
end
end LP
/-! the head's facts (printed) -/
namespace LP
open PySem PySem.Spec PyProof.Rows L2 DL
theorem fun_of9 {K : PySem.W.Frag} {x qual : Str} {st : Stmt} {f : Addr} {fd : FuncData} {kws : List (Str × V)} (F : FunD K x qual (defArgs st) (defBody st) (defScope st) [] kws f fd) : Fun K x qual st f fd := by
  obtain ⟨oc, od, dV, kV, doc, pm, an, cdv, ct, osl, e, l, c, hd, _⟩ := F.ex
  rcases hd with ⟨_, e2⟩ | ⟨e2, _⟩
  · subst e2
    exact ⟨⟨oc, od, kV, doc, pm, an, cdv, ct, osl, e, l, c⟩, F.kp⟩
  · exact absurd rfl e2
end LP
namespace LP
open PySem PySem.Spec PyProof.Rows L2 DL
def dd (n : Str) (st : Stmt) : He.DefD := ⟨(n, none), n, n, defArgs st, defBody st, defScope st, [], []⟩
def dm (C m q : Str) (st : Stmt) : He.DefD := ⟨(C, some m), m, q, defArgs st, defBody st, defScope st, [], []⟩
def fnH : List He.DefD := [dd "is_whole" s_is_whole, dd "is_word" s_is_word, dd "rise" s_rise, dd "is_pool" s_is_pool, dd "is_ridge" s_is_ridge, dd "is_shore" s_is_shore, dd "need_shore" s_need_shore, dd "all_lots" s_all_lots, dd "are_one" s_are_one, dd "least_from" s_least_from, dd "need_pool" s_need_pool, dd "one_from" s_one_from, dd "chosen" s_chosen, dd "with_ridges" s_with_ridges, dd "do_tell" s_do_tell, dd "tree_of" s_tree_of, dd "least_tree" s_least_tree, dd "way_from" s_way_from, dd "way_in" s_way_in, dd "_law_cell" s__law_cell, dd "_law_drawn" s__law_drawn, dd "_law_roll" s__law_roll, dd "_law_rounds" s__law_rounds, dd "_law_term" s__law_term, dd "_law_told" s__law_told, dd "_law_any_ridges" s__law_any_ridges, dd "_law_any_shore" s__law_any_shore, dd "law" s_law]
def faH0 : List He.Fa := [.free "isinstance", .free "int", .free "bool", .free "str", .free "tuple", .free "list", .free "len", .free "all", .free "any", .free "sum", .free "max", .free "min", .free "sorted", .free "zip", .free "range", .free "enumerate", .free "set", .free "dict", .free "ValueError", .free "abs", .str "SMALL" "abcdefghijklmnopqrstuvwxyz", .int "HIGHEST" 9, .glo "PoolError", .exc "PoolError", .glo "BadShore", .exc "BadShore", .glo "BadPool", .exc "BadPool", .glo "BadHeight", .exc "BadHeight"]
def faH1 : List He.Fa := [.glo "BadCounts", .exc "BadCounts", .glo "BadLot", .exc "BadLot", .glo "BadKinds", .exc "BadKinds", .glo "BadBounds", .exc "BadBounds", .glo "BadDays", .exc "BadDays", .glo "BadSeen", .exc "BadSeen", .glo "Nothing", .exc "Nothing", .glo "Full", .exc "Full", .glo "BadText", .exc "BadText", .glo "is_whole", .glo "is_word", .glo "rise", .glo "is_pool", .glo "is_ridge", .glo "is_shore", .glo "need_shore", .glo "all_lots", .glo "are_one", .glo "least_from", .glo "need_pool", .glo "one_from"]
def faH2 : List He.Fa := [.glo "chosen", .glo "with_ridges", .glo "do_tell", .glo "tree_of", .glo "least_tree", .glo "way_from", .glo "way_in", .glo "_law_cell", .glo "_law_drawn", .glo "_law_roll", .glo "_law_rounds", .glo "_law_term", .glo "_law_told", .glo "_law_any_ridges", .glo "_law_any_shore", .glo "law"]
def faH : List He.Fa := faH0 ++ faH1 ++ faH2
def looseH0 : List Str := ["PoolError", "BadShore", "BadPool", "BadHeight", "BadCounts", "BadLot", "BadKinds", "BadBounds", "BadDays", "BadSeen", "Nothing", "Full", "BadText", "SMALL", "HIGHEST", "is_whole", "is_word", "rise", "is_pool", "is_ridge", "is_shore", "need_shore", "all_lots", "are_one", "least_from", "need_pool", "one_from", "chosen", "with_ridges", "do_tell"]
def looseH1 : List Str := ["tree_of", "least_tree", "way_from", "way_in", "_law_cell", "_law_drawn", "_law_roll", "_law_rounds", "_law_term", "_law_told", "_law_any_ridges", "_law_any_shore"]
def looseH : List Str := looseH0 ++ looseH1
section
variable {K : PySem.W.Frag} {h : Heap} {mg : Str → Option Value}
theorem at_is_whole (X : K.In h) (G : h.Ns mainGlobals mg) (c : He.SaysD faH fnH K) : DefAt K mg "is_whole" s_is_whole p_is_whole := by
  obtain ⟨fd, F⟩ := c.def_ 0 (d := dd "is_whole" s_is_whole) rfl
  exact ⟨_, fd, He.glo_ok X G (c.fact 48 (f := .glo "is_whole") rfl), fun_of9 F, F.bindsN fun _ _ _ _ _ _ us hl => match us, hl with | [_, _, _], _ => rfl⟩
theorem at_is_word (X : K.In h) (G : h.Ns mainGlobals mg) (c : He.SaysD faH fnH K) : DefAt K mg "is_word" s_is_word p_is_word := by
  obtain ⟨fd, F⟩ := c.def_ 1 (d := dd "is_word" s_is_word) rfl
  exact ⟨_, fd, He.glo_ok X G (c.fact 49 (f := .glo "is_word") rfl), fun_of9 F, F.bindsN fun _ _ _ _ _ _ us hl => match us, hl with | [_], _ => rfl⟩
theorem at_rise (X : K.In h) (G : h.Ns mainGlobals mg) (c : He.SaysD faH fnH K) : DefAt K mg "rise" s_rise p_rise := by
  obtain ⟨fd, F⟩ := c.def_ 2 (d := dd "rise" s_rise) rfl
  exact ⟨_, fd, He.glo_ok X G (c.fact 50 (f := .glo "rise") rfl), fun_of9 F, F.bindsN fun _ _ _ _ _ _ us hl => match us, hl with | [_], _ => rfl⟩
theorem at_is_pool (X : K.In h) (G : h.Ns mainGlobals mg) (c : He.SaysD faH fnH K) : DefAt K mg "is_pool" s_is_pool p_is_pool := by
  obtain ⟨fd, F⟩ := c.def_ 3 (d := dd "is_pool" s_is_pool) rfl
  exact ⟨_, fd, He.glo_ok X G (c.fact 51 (f := .glo "is_pool") rfl), fun_of9 F, F.bindsN fun _ _ _ _ _ _ us hl => match us, hl with | [_, _], _ => rfl⟩
theorem at_is_ridge (X : K.In h) (G : h.Ns mainGlobals mg) (c : He.SaysD faH fnH K) : DefAt K mg "is_ridge" s_is_ridge p_is_ridge := by
  obtain ⟨fd, F⟩ := c.def_ 4 (d := dd "is_ridge" s_is_ridge) rfl
  exact ⟨_, fd, He.glo_ok X G (c.fact 52 (f := .glo "is_ridge") rfl), fun_of9 F, F.bindsN fun _ _ _ _ _ _ us hl => match us, hl with | [_, _], _ => rfl⟩
theorem at_is_shore (X : K.In h) (G : h.Ns mainGlobals mg) (c : He.SaysD faH fnH K) : DefAt K mg "is_shore" s_is_shore p_is_shore := by
  obtain ⟨fd, F⟩ := c.def_ 5 (d := dd "is_shore" s_is_shore) rfl
  exact ⟨_, fd, He.glo_ok X G (c.fact 53 (f := .glo "is_shore") rfl), fun_of9 F, F.bindsN fun _ _ _ _ _ _ us hl => match us, hl with | [_], _ => rfl⟩
theorem at_need_shore (X : K.In h) (G : h.Ns mainGlobals mg) (c : He.SaysD faH fnH K) : DefAt K mg "need_shore" s_need_shore p_need_shore := by
  obtain ⟨fd, F⟩ := c.def_ 6 (d := dd "need_shore" s_need_shore) rfl
  exact ⟨_, fd, He.glo_ok X G (c.fact 54 (f := .glo "need_shore") rfl), fun_of9 F, F.bindsN fun _ _ _ _ _ _ us hl => match us, hl with | [_], _ => rfl⟩
theorem at_all_lots (X : K.In h) (G : h.Ns mainGlobals mg) (c : He.SaysD faH fnH K) : DefAt K mg "all_lots" s_all_lots p_all_lots := by
  obtain ⟨fd, F⟩ := c.def_ 7 (d := dd "all_lots" s_all_lots) rfl
  exact ⟨_, fd, He.glo_ok X G (c.fact 55 (f := .glo "all_lots") rfl), fun_of9 F, F.bindsN fun _ _ _ _ _ _ us hl => match us, hl with | [_, _], _ => rfl⟩
theorem at_are_one (X : K.In h) (G : h.Ns mainGlobals mg) (c : He.SaysD faH fnH K) : DefAt K mg "are_one" s_are_one p_are_one := by
  obtain ⟨fd, F⟩ := c.def_ 8 (d := dd "are_one" s_are_one) rfl
  exact ⟨_, fd, He.glo_ok X G (c.fact 56 (f := .glo "are_one") rfl), fun_of9 F, F.bindsN fun _ _ _ _ _ _ us hl => match us, hl with | [_, _, _, _], _ => rfl⟩
theorem at_least_from (X : K.In h) (G : h.Ns mainGlobals mg) (c : He.SaysD faH fnH K) : DefAt K mg "least_from" s_least_from p_least_from := by
  obtain ⟨fd, F⟩ := c.def_ 9 (d := dd "least_from" s_least_from) rfl
  exact ⟨_, fd, He.glo_ok X G (c.fact 57 (f := .glo "least_from") rfl), fun_of9 F, F.bindsN fun _ _ _ _ _ _ us hl => match us, hl with | [_, _, _], _ => rfl⟩
theorem at_need_pool (X : K.In h) (G : h.Ns mainGlobals mg) (c : He.SaysD faH fnH K) : DefAt K mg "need_pool" s_need_pool p_need_pool := by
  obtain ⟨fd, F⟩ := c.def_ 10 (d := dd "need_pool" s_need_pool) rfl
  exact ⟨_, fd, He.glo_ok X G (c.fact 58 (f := .glo "need_pool") rfl), fun_of9 F, F.bindsN fun _ _ _ _ _ _ us hl => match us, hl with | [_, _], _ => rfl⟩
theorem at_one_from (X : K.In h) (G : h.Ns mainGlobals mg) (c : He.SaysD faH fnH K) : DefAt K mg "one_from" s_one_from p_one_from := by
  obtain ⟨fd, F⟩ := c.def_ 11 (d := dd "one_from" s_one_from) rfl
  exact ⟨_, fd, He.glo_ok X G (c.fact 59 (f := .glo "one_from") rfl), fun_of9 F, F.bindsN fun _ _ _ _ _ _ us hl => match us, hl with | [_, _, _], _ => rfl⟩
theorem at_chosen (X : K.In h) (G : h.Ns mainGlobals mg) (c : He.SaysD faH fnH K) : DefAt K mg "chosen" s_chosen p_chosen := by
  obtain ⟨fd, F⟩ := c.def_ 12 (d := dd "chosen" s_chosen) rfl
  exact ⟨_, fd, He.glo_ok X G (c.fact 60 (f := .glo "chosen") rfl), fun_of9 F, F.bindsN fun _ _ _ _ _ _ us hl => match us, hl with | [_, _], _ => rfl⟩
theorem at_with_ridges (X : K.In h) (G : h.Ns mainGlobals mg) (c : He.SaysD faH fnH K) : DefAt K mg "with_ridges" s_with_ridges p_with_ridges := by
  obtain ⟨fd, F⟩ := c.def_ 13 (d := dd "with_ridges" s_with_ridges) rfl
  exact ⟨_, fd, He.glo_ok X G (c.fact 61 (f := .glo "with_ridges") rfl), fun_of9 F, F.bindsN fun _ _ _ _ _ _ us hl => match us, hl with | [_, _], _ => rfl⟩
theorem at_do_tell (X : K.In h) (G : h.Ns mainGlobals mg) (c : He.SaysD faH fnH K) : DefAt K mg "do_tell" s_do_tell p_do_tell := by
  obtain ⟨fd, F⟩ := c.def_ 14 (d := dd "do_tell" s_do_tell) rfl
  exact ⟨_, fd, He.glo_ok X G (c.fact 62 (f := .glo "do_tell") rfl), fun_of9 F, F.bindsN fun _ _ _ _ _ _ us hl => match us, hl with | [_, _], _ => rfl⟩
theorem at_tree_of (X : K.In h) (G : h.Ns mainGlobals mg) (c : He.SaysD faH fnH K) : DefAt K mg "tree_of" s_tree_of p_tree_of := by
  obtain ⟨fd, F⟩ := c.def_ 15 (d := dd "tree_of" s_tree_of) rfl
  exact ⟨_, fd, He.glo_ok X G (c.fact 63 (f := .glo "tree_of") rfl), fun_of9 F, F.bindsN fun _ _ _ _ _ _ us hl => match us, hl with | [_], _ => rfl⟩
theorem at_least_tree (X : K.In h) (G : h.Ns mainGlobals mg) (c : He.SaysD faH fnH K) : DefAt K mg "least_tree" s_least_tree p_least_tree := by
  obtain ⟨fd, F⟩ := c.def_ 16 (d := dd "least_tree" s_least_tree) rfl
  exact ⟨_, fd, He.glo_ok X G (c.fact 64 (f := .glo "least_tree") rfl), fun_of9 F, F.bindsN fun _ _ _ _ _ _ us hl => match us, hl with | [_], _ => rfl⟩
theorem at_way_from (X : K.In h) (G : h.Ns mainGlobals mg) (c : He.SaysD faH fnH K) : DefAt K mg "way_from" s_way_from p_way_from := by
  obtain ⟨fd, F⟩ := c.def_ 17 (d := dd "way_from" s_way_from) rfl
  exact ⟨_, fd, He.glo_ok X G (c.fact 65 (f := .glo "way_from") rfl), fun_of9 F, F.bindsN fun _ _ _ _ _ _ us hl => match us, hl with | [_, _, _, _], _ => rfl⟩
theorem at_way_in (X : K.In h) (G : h.Ns mainGlobals mg) (c : He.SaysD faH fnH K) : DefAt K mg "way_in" s_way_in p_way_in := by
  obtain ⟨fd, F⟩ := c.def_ 18 (d := dd "way_in" s_way_in) rfl
  exact ⟨_, fd, He.glo_ok X G (c.fact 66 (f := .glo "way_in") rfl), fun_of9 F, F.bindsN fun _ _ _ _ _ _ us hl => match us, hl with | [_, _, _], _ => rfl⟩
theorem at__law_cell (X : K.In h) (G : h.Ns mainGlobals mg) (c : He.SaysD faH fnH K) : DefAt K mg "_law_cell" s__law_cell p__law_cell := by
  obtain ⟨fd, F⟩ := c.def_ 19 (d := dd "_law_cell" s__law_cell) rfl
  exact ⟨_, fd, He.glo_ok X G (c.fact 67 (f := .glo "_law_cell") rfl), fun_of9 F, F.bindsN fun _ _ _ _ _ _ us hl => match us, hl with | [_, _], _ => rfl⟩
theorem at__law_drawn (X : K.In h) (G : h.Ns mainGlobals mg) (c : He.SaysD faH fnH K) : DefAt K mg "_law_drawn" s__law_drawn p__law_drawn := by
  obtain ⟨fd, F⟩ := c.def_ 20 (d := dd "_law_drawn" s__law_drawn) rfl
  exact ⟨_, fd, He.glo_ok X G (c.fact 68 (f := .glo "_law_drawn") rfl), fun_of9 F, F.bindsN fun _ _ _ _ _ _ us hl => match us, hl with | [_, _], _ => rfl⟩
theorem at__law_roll (X : K.In h) (G : h.Ns mainGlobals mg) (c : He.SaysD faH fnH K) : DefAt K mg "_law_roll" s__law_roll p__law_roll := by
  obtain ⟨fd, F⟩ := c.def_ 21 (d := dd "_law_roll" s__law_roll) rfl
  exact ⟨_, fd, He.glo_ok X G (c.fact 69 (f := .glo "_law_roll") rfl), fun_of9 F, F.bindsN fun _ _ _ _ _ _ us hl => match us, hl with | [_, _], _ => rfl⟩
theorem at__law_rounds (X : K.In h) (G : h.Ns mainGlobals mg) (c : He.SaysD faH fnH K) : DefAt K mg "_law_rounds" s__law_rounds p__law_rounds := by
  obtain ⟨fd, F⟩ := c.def_ 22 (d := dd "_law_rounds" s__law_rounds) rfl
  exact ⟨_, fd, He.glo_ok X G (c.fact 70 (f := .glo "_law_rounds") rfl), fun_of9 F, F.bindsN fun _ _ _ _ _ _ us hl => match us, hl with | [_, _], _ => rfl⟩
theorem at__law_term (X : K.In h) (G : h.Ns mainGlobals mg) (c : He.SaysD faH fnH K) : DefAt K mg "_law_term" s__law_term p__law_term := by
  obtain ⟨fd, F⟩ := c.def_ 23 (d := dd "_law_term" s__law_term) rfl
  exact ⟨_, fd, He.glo_ok X G (c.fact 71 (f := .glo "_law_term") rfl), fun_of9 F, F.bindsN fun _ _ _ _ _ _ us hl => match us, hl with | [_], _ => rfl⟩
theorem at__law_told (X : K.In h) (G : h.Ns mainGlobals mg) (c : He.SaysD faH fnH K) : DefAt K mg "_law_told" s__law_told p__law_told := by
  obtain ⟨fd, F⟩ := c.def_ 24 (d := dd "_law_told" s__law_told) rfl
  exact ⟨_, fd, He.glo_ok X G (c.fact 72 (f := .glo "_law_told") rfl), fun_of9 F, F.bindsN fun _ _ _ _ _ _ us hl => match us, hl with | [_], _ => rfl⟩
theorem at__law_any_ridges (X : K.In h) (G : h.Ns mainGlobals mg) (c : He.SaysD faH fnH K) : DefAt K mg "_law_any_ridges" s__law_any_ridges p__law_any_ridges := by
  obtain ⟨fd, F⟩ := c.def_ 25 (d := dd "_law_any_ridges" s__law_any_ridges) rfl
  exact ⟨_, fd, He.glo_ok X G (c.fact 73 (f := .glo "_law_any_ridges") rfl), fun_of9 F, F.bindsN fun _ _ _ _ _ _ us hl => match us, hl with | [_, _, _], _ => rfl⟩
theorem at__law_any_shore (X : K.In h) (G : h.Ns mainGlobals mg) (c : He.SaysD faH fnH K) : DefAt K mg "_law_any_shore" s__law_any_shore p__law_any_shore := by
  obtain ⟨fd, F⟩ := c.def_ 26 (d := dd "_law_any_shore" s__law_any_shore) rfl
  exact ⟨_, fd, He.glo_ok X G (c.fact 74 (f := .glo "_law_any_shore") rfl), fun_of9 F, F.bindsN fun _ _ _ _ _ _ us hl => match us, hl with | [_, _, _], _ => rfl⟩
theorem at_law (X : K.In h) (G : h.Ns mainGlobals mg) (c : He.SaysD faH fnH K) : DefAt K mg "law" s_law p_law := by
  obtain ⟨fd, F⟩ := c.def_ 27 (d := dd "law" s_law) rfl
  exact ⟨_, fd, He.glo_ok X G (c.fact 75 (f := .glo "law") rfl), fun_of9 F, F.bindsN fun _ _ _ _ _ _ us hl => match us, hl with | [_], _ => rfl⟩
theorem tx (X : K.In h) (G : h.Ns mainGlobals mg) (c : He.SaysD faH fnH K) : Tx K mg where
  bt := fun x hx => He.free_ok X G (c.facts (f := .free x) (by
    have : ∀ x ∈ btNames, He.Fa.free x ∈ faH0 := by
      intro x hx
      simp only [btNames, List.mem_cons, List.not_mem_nil, or_false] at hx
      rcases hx with rfl | rfl | rfl | rfl | rfl | rfl | rfl | rfl | rfl | rfl | rfl | rfl | rfl | rfl | rfl | rfl | rfl | rfl | rfl | rfl <;> simp [faH0]
    exact List.mem_append_left _ (List.mem_append_left _ (this x hx))))
  c_SMALL := He.str_ok X G (c.fact 20 (f := .str "SMALL" "abcdefghijklmnopqrstuvwxyz") rfl)
  c_HIGHEST := He.int_ok X G (c.fact 21 (f := .int "HIGHEST" 9) rfl)
  e_PoolError := ⟨_, He.glo_ok X G (c.fact 22 (f := .glo "PoolError") rfl), He.exc_ok (c.fact 23 (f := .exc "PoolError") rfl)⟩
  e_BadShore := ⟨_, He.glo_ok X G (c.fact 24 (f := .glo "BadShore") rfl), He.exc_ok (c.fact 25 (f := .exc "BadShore") rfl)⟩
  e_BadPool := ⟨_, He.glo_ok X G (c.fact 26 (f := .glo "BadPool") rfl), He.exc_ok (c.fact 27 (f := .exc "BadPool") rfl)⟩
  e_BadHeight := ⟨_, He.glo_ok X G (c.fact 28 (f := .glo "BadHeight") rfl), He.exc_ok (c.fact 29 (f := .exc "BadHeight") rfl)⟩
  e_BadCounts := ⟨_, He.glo_ok X G (c.fact 30 (f := .glo "BadCounts") rfl), He.exc_ok (c.fact 31 (f := .exc "BadCounts") rfl)⟩
  e_BadLot := ⟨_, He.glo_ok X G (c.fact 32 (f := .glo "BadLot") rfl), He.exc_ok (c.fact 33 (f := .exc "BadLot") rfl)⟩
  e_BadKinds := ⟨_, He.glo_ok X G (c.fact 34 (f := .glo "BadKinds") rfl), He.exc_ok (c.fact 35 (f := .exc "BadKinds") rfl)⟩
  e_BadBounds := ⟨_, He.glo_ok X G (c.fact 36 (f := .glo "BadBounds") rfl), He.exc_ok (c.fact 37 (f := .exc "BadBounds") rfl)⟩
  e_BadDays := ⟨_, He.glo_ok X G (c.fact 38 (f := .glo "BadDays") rfl), He.exc_ok (c.fact 39 (f := .exc "BadDays") rfl)⟩
  e_BadSeen := ⟨_, He.glo_ok X G (c.fact 40 (f := .glo "BadSeen") rfl), He.exc_ok (c.fact 41 (f := .exc "BadSeen") rfl)⟩
  e_Nothing := ⟨_, He.glo_ok X G (c.fact 42 (f := .glo "Nothing") rfl), He.exc_ok (c.fact 43 (f := .exc "Nothing") rfl)⟩
  e_Full := ⟨_, He.glo_ok X G (c.fact 44 (f := .glo "Full") rfl), He.exc_ok (c.fact 45 (f := .exc "Full") rfl)⟩
  e_BadText := ⟨_, He.glo_ok X G (c.fact 46 (f := .glo "BadText") rfl), He.exc_ok (c.fact 47 (f := .exc "BadText") rfl)⟩
  d_is_whole := at_is_whole X G c
  d_is_word := at_is_word X G c
  d_rise := at_rise X G c
  d_is_pool := at_is_pool X G c
  d_is_ridge := at_is_ridge X G c
  d_is_shore := at_is_shore X G c
  d_need_shore := at_need_shore X G c
  d_all_lots := at_all_lots X G c
  d_are_one := at_are_one X G c
  d_least_from := at_least_from X G c
  d_need_pool := at_need_pool X G c
  d_one_from := at_one_from X G c
  d_chosen := at_chosen X G c
  d_with_ridges := at_with_ridges X G c
  d_do_tell := at_do_tell X G c
  d_tree_of := at_tree_of X G c
  d_least_tree := at_least_tree X G c
  d_way_from := at_way_from X G c
  d_way_in := at_way_in X G c
  d__law_cell := at__law_cell X G c
  d__law_drawn := at__law_drawn X G c
  d__law_roll := at__law_roll X G c
  d__law_rounds := at__law_rounds X G c
  d__law_term := at__law_term X G c
  d__law_told := at__law_told X G c
  d__law_any_ridges := at__law_any_ridges X G c
  d__law_any_shore := at__law_any_shore X G c
  d_law := at_law X G c
end
end LP
/-! the head's run (printed) -/
namespace LP
open PySem PySem.Spec PyProof.Rows L2 DL
abbrev tfH : List He.Defn := [("law", none)]
def exOne (K : PySem.W.Frag) (n : Str) : Bool :=
  He.eqO (PySem.W.findIn K (.ref (He.ga K n)) "__getattribute__") (some (some (.builtin "BaseException.__getattribute__"))) && (He.eqO (PySem.W.findIn K (.ref (He.ga K n)) "__getattr__") (some none) && (decide (PySem.W.subIn K (.ref (He.ga K n)) (.type "BaseException") = some true) && (PySem.W.hasDictIn K (He.ga K n) && (He.eqO (PySem.W.findIn K (.ref (He.ga K n)) "__class__") (some (some (.builtin "object.__class__"))) && (He.eqO (PySem.W.specialIn K (.builtin "object.__class__") "__get__") (some (some (.builtin "getset_descriptor.__get__"))) && (decide (PySem.W.takesIn K (.builtin "object.__class__") = some true) && (decide (PySem.W.mroIn K (He.ga K n) (.type "object") = some true) &&
  ((termNames.all fun m => decide (PySem.W.kitOne K (.ref (He.ga K n)) (.ref (He.ga K m)) = some (decide (m = n)))) && (decide (PySem.W.kitOne K (.ref (He.ga K n)) (.type "ValueError") = some true) && decide (PySem.W.exmOne K (.ref (He.ga K n)) (.ref (He.ga K "PoolError")) = some true))))))))))
def exH (K : PySem.W.Frag) : Bool := decide ((tfH.map fun p => (He.cT K p).2).Nodup) && termNames.all (exOne K)
abbrev RH : PySem.W.OpenRow := PySem.W.OpenLaw.row PySem.Challenge.rw_lowpools_k20_whole_ways_in_trees
abbrev hkH : PySem.W.Hook := He.hookX 5 faH fnH [] tfH exH
def obH (s : PySem.W.SharedT) : He.AlX := He.obsX 5 faH fnH [] tfH exH (HandSHeadRun.getT s)
theorem obH_eq (s : PySem.W.SharedT) : obH s = hkH.obs s.abs := He.obsX_eq (HandSHeadRun.getT_eq s)
theorem runH (w : World) : HandSHeadRun.RunEq RH (PySem.W.view RH.prog [47]) hkH obH 9000 looseH w := by
  intro os
  kernel_rfl
end LP
/-! the end (printed) -/
namespace LP
open PySem PySem.Spec PyProof.Rows L2 DL LamX
section
variable {K : PySem.W.Frag} {h : Heap} {mg : Str → Option Value}
theorem tb_uniq {l : List He.Defn} {f : He.Defn → Addr} {q : He.Defn → Str} (nd : (l.map f).Nodup) {d : He.Defn} (hd : d ∈ l) : ∀ p ∈ l.map (fun d => (f d, q d)), p.1 = f d → p.2 = q d := by
  intro p hp e
  obtain ⟨d', hd', rfl⟩ := List.mem_map.mp hp
  have : d' = d := by
    induction l with
    | nil => cases hd
    | cons a r ih =>
      rw [List.map_cons, List.nodup_cons] at nd
      rcases List.mem_cons.mp hd with rfl | h1
      · rcases List.mem_cons.mp hd' with h2 | h2
        · exact h2
        · exact absurd (List.mem_map.mpr ⟨d', h2, e⟩) nd.1
      · rcases List.mem_cons.mp hd' with rfl | h2
        · exact absurd (List.mem_map.mpr ⟨d, h1, e.symm⟩) nd.1
        · exact ih nd.2 h1 h2 (List.mem_map.mpr ⟨d', h2, rfl⟩)
  rw [this]
theorem glo_of (X : K.In h) (G : h.Ns mainGlobals mg) (c : He.SaysD faH fnH K) : ∀ m ∈ termNames, mg m = some (.ref (He.ga K m)) := by
  intro m hm
  simp only [termNames, List.mem_cons, List.not_mem_nil, or_false] at hm
  rcases hm with rfl | rfl | rfl | rfl | rfl | rfl | rfl | rfl | rfl | rfl | rfl | rfl
  · exact He.glo_ok X G (c.fact 24 (f := .glo "BadShore") rfl)
  · exact He.glo_ok X G (c.fact 26 (f := .glo "BadPool") rfl)
  · exact He.glo_ok X G (c.fact 28 (f := .glo "BadHeight") rfl)
  · exact He.glo_ok X G (c.fact 30 (f := .glo "BadCounts") rfl)
  · exact He.glo_ok X G (c.fact 32 (f := .glo "BadLot") rfl)
  · exact He.glo_ok X G (c.fact 34 (f := .glo "BadKinds") rfl)
  · exact He.glo_ok X G (c.fact 36 (f := .glo "BadBounds") rfl)
  · exact He.glo_ok X G (c.fact 38 (f := .glo "BadDays") rfl)
  · exact He.glo_ok X G (c.fact 40 (f := .glo "BadSeen") rfl)
  · exact He.glo_ok X G (c.fact 42 (f := .glo "Nothing") rfl)
  · exact He.glo_ok X G (c.fact 44 (f := .glo "Full") rfl)
  · exact He.glo_ok X G (c.fact 46 (f := .glo "BadText") rfl)
theorem refs_of (X : K.In h) (G : h.Ns mainGlobals mg) (c : He.SaysD faH fnH K) (e : exH K = true) : Refs K mg (He.ga K "PoolError") := by
  refine ⟨He.glo_ok X G (c.fact 22 (f := .glo "PoolError") rfl), fun n hn => ⟨He.ga K n, ?_⟩⟩
  have glo := glo_of X G c
  have e := List.all_eq_true.mp (He.ba e).2 n hn
  unfold exOne at e
  obtain ⟨e1, e⟩ := He.ba e
  obtain ⟨e2, e⟩ := He.ba e
  obtain ⟨e3, e⟩ := He.ba e
  obtain ⟨e4, e⟩ := He.ba e
  obtain ⟨e5, e⟩ := He.ba e
  obtain ⟨e6, e⟩ := He.ba e
  obtain ⟨e7, e⟩ := He.ba e
  obtain ⟨e7b, e⟩ := He.ba e
  obtain ⟨e8, e⟩ := He.ba e
  obtain ⟨e9, e10⟩ := He.ba e
  exact ⟨⟨hn, glo n hn, ⟨He.eqO_ok e1, He.eqO_ok e2, of_decide_eq_true e3, e4, He.eqO_ok e5, He.eqO_ok e6, of_decide_eq_true e7, of_decide_eq_true e7b⟩, fun m hm => ⟨_, glo m hm, of_decide_eq_true (List.all_eq_true.mp e8 m hm)⟩, of_decide_eq_true e9⟩, of_decide_eq_true e10⟩
theorem defC_law (X : K.In h) (G : h.Ns mainGlobals mg) (c : He.SaysD faH fnH K) : ∃ f fd, DefC K mg "law" s_law p_law (He.codeOf K ("law", none)) f fd := by
  obtain ⟨fd, F⟩ := c.def_ 27 (d := dd "law" s_law) rfl
  have F9 : Fun K "law" "law" s_law _ fd := fun_of9 F
  obtain ⟨oc, od, kV, doc, pm, an, cdv, ct, osl, e, lk, hc⟩ := F9.ex
  obtain ⟨cc, rfl⟩ := He.codeIn_ref hc
  have ec : He.codeOf K ("law", none) = cc := He.codeOf_eq lk (by rw [e])
  rw [ec]
  exact ⟨_, fd, He.glo_ok X G (c.fact 75 (f := .glo "law") rfl), ⟨oc, od, kV, doc, pm, an, ct, osl, e, lk, hc⟩, F9.kp, F.bindsN fun _ _ _ _ _ _ us hl => match us, hl with | [_], _ => rfl⟩
theorem sp_law {Tb : List (Addr × Str)} {H : Hp} {a : Addr} {ns : List Int} (hl : ns.length ≤ 63) (hT : Tabs Tb H) (hS : SqL K H a (ns.map V.int)) : spLaw K Tb [.ref a] H (fun v _ => v = .bl true) fun _ _ _ => False := by
  have hS2 : SqL K (noTbl H) a (ns.map V.int) := by
    rcases hS with (r | ⟨o, r⟩) | r
    · exact .inl (.inl (noTbl_at r fun ps z => by cases z))
    · exact .inl (.inr ⟨o, noTbl_at r fun ps z => by cases z⟩)
    · exact .inr r
  have hd : ∀ l : List Int, DpAll K (noTbl H) (l.map V.int) (l.map PyData.int) := fun l => by
    induction l with
    | nil => exact .nil
    | cons n r ih => exact .cons (.int n) ih
  refine ⟨ns, noTbl H, noTbl_ex, noTbl_no, .cons (.lst hS2 (hd ns)) .nil, Nat.le_trans hl (by decide), hT, fun d v G2 H2 hd2 _ _ r => ?_⟩
  subst hd2
  exact dp_bool r
abbrev RL : PySem.W.OpenLaw := PySem.Challenge.rw_lowpools_k20_whole_ways_in_trees
abbrev qOf (d : He.Defn) : Str := (d.1 ++ ".<locals>.") ++ "<lambda>"
abbrev tbH (K : PySem.W.Frag) : List (Addr × Str) := tfH.map fun d => ((He.cT K d).2, qOf d)
theorem lawAt {w : World} {fa : Addr} (X : K.In h) (G : h.Ns mainGlobals mg) (hfa : mg ("law" : Str) = some (.ref fa)) (c : He.SaysX faH fnH [] tfH exH w h K) : LawAtS RL w K (L2N.CX RL.prog w) 15 63 "_law_script" mg fa h := by
  have cd := c.t.d
  obtain ⟨fd, F⟩ := cd.def_ 27 (d := dd "law" s_law) rfl
  have ef := hfa.symm.trans (He.glo_ok X G (cd.fact 75 (f := .glo "law") rfl))
  have F9 : Fun K "law" "law" s_law _ fd := fun_of9 F
  have b := FunD.bindsA (ps := ["_law_script"]) F fun _ _ _ _ _ _ us hl => match us, hl with | [_], _ => rfl
  have T := tx X G cd
  have nd : (tfH.map fun p => (He.cT K p).2).Nodup := by
    have e := c.more
    unfold exH at e
    exact of_decide_eq_true (He.ba e).1
  refine ⟨fd, tfH.map (He.cT K), spLaw K (tbH K), fun p hp => ?_, fun p hp => ?_, fun p hp => ?_, fun s v => b s [v] rfl, fun H a ns hl _ hT hS => sp_law hl (fun p hp => ?_) hS, fun base KB GB TB => ?_⟩
  · obtain ⟨d, hd, rfl⟩ := List.mem_map.mp hp; exact c.empty _ hd
  · obtain ⟨d, hd, rfl⟩ := List.mem_map.mp hp; exact c.out _ hd
  · obtain ⟨d, hd, rfl⟩ := List.mem_map.mp hp; exact PySem.W.codeHd_of_K X (c.hd _ hd)
  · obtain ⟨d, hd, rfl⟩ := List.mem_map.mp hp
    exact ⟨#[], hT _ (List.mem_map.mpr ⟨d, hd, rfl⟩), by simp [TriplesOk], fun pos cv hc => by simp [codeAmong] at hc⟩
  · obtain ⟨f_law, fd_law, D_law⟩ := defC_law X G cd
    have m_law : (("law", none) : He.Defn) ∈ tfH := by simp [tfH]
    have ok := k_law (P := RL.prog) (w := w) (base := base) (Tb := tbH K) T (refs_of X G cd c.more) D_law (TB _ (List.mem_map.mpr ⟨_, m_law, rfl⟩)) (List.mem_map.mpr ⟨_, m_law, rfl⟩) (tb_uniq (q := qOf) nd m_law)
    have hf : f_law = fa := by
      have := D_law.m
      rw [hfa] at this
      injection this with this
      injection this with this
      exact this.symm
    subst hf
    obtain ⟨oc2, od2, kV2, doc2, pm2, an2, ct2, osl2, e2, lk2, hc2⟩ := D_law.ex
    obtain ⟨oc, od, kV, doc, pm, an, cdv, ct, osl, e, lk, hc⟩ := F9.ex
    injection ef with ef
    injection ef with ef
    have lk' : K.lookup f_law = some ⟨oc, od, .func fd, osl⟩ := by rw [ef]; exact lk
    rw [lk'] at lk2
    injection lk2 with lk2
    injection lk2 with _ _ lk2 _
    injection lk2 with lk2
    subst lk2
    exact ok
end
end LP
open PySem PySem.W PySem.Calls PyProof.Rows
theorem PySem.Challenge.cw_lowpools_k20_whole_ways_in_trees_holds : PySem.Challenge.rw_lowpools_k20_whole_ways_in_trees.Holds := by
  w_on; o_law
  refine HandSHeadRun.head_any (r := OpenLaw.row PySem.Challenge.rw_lowpools_k20_whole_ways_in_trees) (q := view (OpenLaw.row PySem.Challenge.rw_lowpools_k20_whole_ways_in_trees).prog [47]) (H := LP.hkH) (ob := LP.obH) (M := 9000) (loose := LP.looseH) (d := HandSHeadRun.topDef (OpenLaw.row PySem.Challenge.rw_lowpools_k20_whole_ways_in_trees).prog 47) (kwd := []) LP.obH_eq
    (by kernel_rfl) (fun s => by kernel_rfl) LP.runH (by kernel_rfl) (by kernel_rfl) (by kernel_rfl) (by rfl) (by first | assumption | decide +kernel) (by decide +kernel) ⟨rfl, rfl, rfl, rfl, rfl, by decide +kernel⟩ ?hw ?hc
  case hw => w_witness2
  case hc =>
    refine LamX.walk_ofTsE (l := PySem.Challenge.rw_lowpools_k20_whole_ways_in_trees) (n := 63) (k := 15) (x := "_law_script") (CX := fun w => L2N.CX PySem.Challenge.rw_lowpools_k20_whole_ways_in_trees.prog w) rfl (by decide) (by kernel_rfl) ⟨rfl, by decide, by decide⟩ ?F ?hCX
    case F =>
      intro w mg fa h Y G hmg0
      obtain ⟨K, KX, c⟩ := Y
      have hmg : mg ("law" : PySem.Str) = some (.ref fa) := by
        have e : (HandSHeadRun.topDef (OpenLaw.row PySem.Challenge.rw_lowpools_k20_whole_ways_in_trees).prog 47).name = ("law" : PySem.Str) := by kernel_rfl
        rw [← e]
        exact hmg0
      exact ⟨K, KX, LP.lawAt KX G hmg c⟩
    case hCX =>
      intro w H s e s' z
      obtain ⟨_, _, _, _, _, _, _, _, _, _, _, _, hE⟩ := z
      exact hE
