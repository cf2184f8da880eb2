import PyProof.Rows.All
import Wide.All
import OpenK.AllK
import Wide.FinOn
import HandS.ForMost
import HandS.WordsExc
import HandS.Deep
import HandS.Style
import HandS.Defaults
import HandS.Conv
import HandS.Zip
import HandS.SortInts
import HandS.SortRule
import HandS.IsInst
import HandS.Head0
import HandS.Head1
import HandS.Head2
import HandS.HeadEnd
import HandS.HeadHook1
import HandS.HeadHook2
import KE.KDictPairs
import HandS.TupLen
import HandS.ExcIs
import HandS.ExcValue
import HandS.CallLocal
import HandS.More
import PyProof.ReprRoads
import HandS.Text
import HandS.Iter
import HandS.Flow
import HandS.ExcInit
import HandS.ExcField
import HandS.DeepEq
import PyProof.CallFns
import HandS.TupSets
import HandS.EndTab
import KE.SortKeyHeap
import KE.SortData
import KE.KSortKey
import HandS.HeadWalk
import PySem.Challenge.RW_swaplattice_k12_trails
set_option Elab.async false
set_option linter.all false
set_option maxRecDepth 100000
set_option maxHeartbeats 4000000
section
/-! Vs: a layer of values over the hand layer: what an expression, a statement, a def does to plain data, the heap out of sight. -/
namespace Vs
open PySem PySem.Spec PyProof.Rows L2

abbrev PD := PySem.PyData
mutual
inductive Rp (G : Hp) : V → PD → Prop
  | non : Rp G .non .none
  | bl (b : Bool) : Rp G (.bl b) (.bool b)
  | int (i : Int) : Rp G (.int i) (.int i)
  | str (x : Str) : Rp G (.str x) (.str x)
  | lst {a : Addr} {xs : List V} {ds : List PD} : G a = some (.lst xs) → RpL G xs ds → Rp G (.ref a) (.list ds)
  | tup {a : Addr} {xs : List V} {ds : List PD} : G a = some (.tup xs) → RpL G xs ds → Rp G (.ref a) (.tuple ds)
  | emp {a : Addr} : G a = some (.dK []) → Rp G (.ref a) (.dict [])
inductive RpL (G : Hp) : List V → List PD → Prop
  | nil : RpL G [] []
  | cons {v : V} {vs : List V} {d : PD} {ds : List PD} : Rp G v d → RpL G vs ds → RpL G (v :: vs) (d :: ds)
end
mutual
theorem Rp.mono {G H : Hp} (e : Same G H) : ∀ (d : PD) (v : V), Rp G v d → Rp H v d
  | .none, _, h => by cases h; exact .non
  | .bool b, _, h => by cases h; exact .bl b
  | .int i, _, h => by cases h; exact .int i
  | .str x, _, h => by cases h; exact .str x
  | .list ds, _, h => by
    cases h with
    | lst h1 h2 => exact .lst (e _ _ h1) (RpL.mono e ds _ h2)
  | .tuple ds, _, h => by
    cases h with
    | tup h1 h2 => exact .tup (e _ _ h1) (RpL.mono e ds _ h2)
  | .dict _, _, h => by
    cases h with
    | emp h1 => exact .emp (e _ _ h1)
theorem RpL.mono {G H : Hp} (e : Same G H) : ∀ (ds : List PD) (vs : List V), RpL G vs ds → RpL H vs ds
  | [], _, h => by cases h; exact .nil
  | d :: ds, _, h => by
    cases h with
    | cons h1 h2 => exact .cons (Rp.mono e d _ h1) (RpL.mono e ds _ h2)
end
mutual
/-- no list within -/
def imm : PD → Bool
  | .list _ => false
  | .dict _ => false
  | .tuple ds => immL ds
  | _ => true
def immL : List PD → Bool
  | [] => true
  | d :: ds => imm d && immL ds
end
mutual
theorem Rp.imm {G H : Hp} (e : ∀ a xs, G a = some (.tup xs) → H a = some (.tup xs)) : ∀ (d : PD) (v : V), imm d = true → Rp G v d → Rp H v d
  | .none, _, _, h => by cases h; exact .non
  | .bool b, _, _, h => by cases h; exact .bl b
  | .int i, _, _, h => by cases h; exact .int i
  | .str x, _, _, h => by cases h; exact .str x
  | .list ds, _, q, _ => by simp [Vs.imm] at q
  | .tuple ds, _, q, h => by
    cases h with
    | tup h1 h2 => exact .tup (e _ _ h1) (RpL.imm e ds _ (by simpa [Vs.imm] using q) h2)
  | .dict _, _, q, _ => by simp [Vs.imm] at q
theorem RpL.imm {G H : Hp} (e : ∀ a xs, G a = some (.tup xs) → H a = some (.tup xs)) : ∀ (ds : List PD) (vs : List V), immL ds = true → RpL G vs ds → RpL H vs ds
  | [], _, _, h => by cases h; exact .nil
  | d :: ds, _, q, h => by
    simp only [immL, Bool.and_eq_true] at q
    cases h with
    | cons h1 h2 => exact .cons (Rp.imm e d _ q.1 h1) (RpL.imm e ds _ q.2 h2)
end
mutual
/-- no dict within -/
def noD : PD → Bool
  | .dict _ => false
  | .list ds => noDL ds
  | .tuple ds => noDL ds
  | _ => true
def noDL : List PD → Bool
  | [] => true
  | d :: ds => noD d && noDL ds
end
mutual
theorem noD_lay : ∀ d : PD, d.canLay0 = true → noD d = true
  | .none, _ => rfl
  | .bool _, _ => rfl
  | .int _, _ => rfl
  | .str _, _ => rfl
  | .list ds, h => noDL_lay ds (by simpa [PyData.canLay0] using h)
  | .tuple ds, h => noDL_lay ds (by simpa [PyData.canLay0] using h)
  | .dict _, h => by simp [PyData.canLay0] at h
theorem noDL_lay : ∀ ds : List PD, PyData.canLayAll0 ds = true → noDL ds = true
  | [], _ => rfl
  | d :: ds, h => by
    have h' : d.canLay0 = true ∧ PyData.canLayAll0 ds = true := by simpa [PyData.canLayAll0] using h
    simp only [noDL, noD_lay d h'.1, noDL_lay ds h'.2, Bool.and_self]
end
theorem noD_shaped {d : PD} (h : SeqAt.shaped d = true) : noD d = true := noD_lay d (SeqAt.canLay_of_shaped h)
mutual
theorem Rp.dp {K : PySem.W.Frag} {H : Hp} : ∀ (d : PD) (v : V), noD d = true → Rp H v d → Dp K H v d
  | .none, _, _, h => by cases h; exact .non
  | .bool b, _, _, h => by cases h; exact .bl b
  | .int i, _, _, h => by cases h; exact .int i
  | .str x, _, _, h => by cases h; exact .str x
  | .list ds, _, n, h => by
    cases h with
    | lst h1 h2 => exact .lst (SqL.of h1) (RpL.dp ds _ n h2)
  | .tuple ds, _, n, h => by
    cases h with
    | tup h1 h2 => exact .tup (SqT.of h1) (RpL.dp ds _ n h2)
  | .dict _, _, n, _ => by cases n
theorem RpL.dp {K : PySem.W.Frag} {H : Hp} : ∀ (ds : List PD) (vs : List V), noDL ds = true → RpL H vs ds → DpAll K H vs ds
  | [], _, _, h => by cases h; exact .nil
  | d :: ds, _, n, h => by
    simp only [noDL, Bool.and_eq_true] at n
    cases h with
    | cons h1 h2 => exact .cons (Rp.dp d _ n.1 h1) (RpL.dp ds _ n.2 h2)
end
theorem RpL.length {G : Hp} : ∀ {ds : List PD} {vs : List V}, RpL G vs ds → vs.length = ds.length
  | [], _, h => by cases h; rfl
  | _ :: _, _, h => by
    cases h with
    | cons h1 h2 => simp [RpL.length h2]
theorem RpL.get {G : Hp} : ∀ {ds : List PD} {vs : List V} {i : Nat} {d : PD}, RpL G vs ds → ds[i]? = some d → ∃ v, vs[i]? = some v ∧ Rp G v d
  | [], _, _, _, _, e => by simp at e
  | d :: ds, _, 0, _, h, e => by
    cases h with
    | cons h1 h2 => simp at e; subst e; exact ⟨_, rfl, h1⟩
  | _ :: ds, _, i + 1, _, h, e => by
    cases h with
    | cons h1 h2 =>
      obtain ⟨v, a, b⟩ := RpL.get (i := i) h2 (by simpa using e)
      exact ⟨v, by simpa using a, b⟩
theorem RpL.getV {G : Hp} : ∀ {ds : List PD} {vs : List V} {i : Nat} {v : V}, RpL G vs ds → vs[i]? = some v → ∃ d, ds[i]? = some d ∧ Rp G v d
  | [], _, _, _, h, e => by cases h; simp at e
  | d :: ds, _, 0, _, h, e => by
    cases h with
    | cons h1 h2 => simp at e; subst e; exact ⟨_, rfl, h1⟩
  | _ :: ds, _, i + 1, _, h, e => by
    cases h with
    | cons h1 h2 =>
      obtain ⟨v, a, b⟩ := RpL.getV (i := i) h2 (by simpa using e)
      exact ⟨v, by simpa using a, b⟩
theorem RpL.append {G : Hp} : ∀ {ds es : List PD} {vs us : List V}, RpL G vs ds → RpL G us es → RpL G (vs ++ us) (ds ++ es)
  | [], _, _, _, h, q => by cases h; exact q
  | _ :: _, _, _, _, h, q => by
    cases h with
    | cons h1 h2 => exact .cons h1 (RpL.append h2 q)
theorem RpL.one {G : Hp} {v : V} {d : PD} (h : Rp G v d) : RpL G [v] [d] := .cons h .nil
theorem RpL.take {G : Hp} : ∀ {ds : List PD} {vs : List V} (n : Nat), RpL G vs ds → RpL G (vs.take n) (ds.take n)
  | _, _, 0, _ => .nil
  | [], _, _ + 1, h => by cases h; exact .nil
  | _ :: _, _, n + 1, h => by
    cases h with
    | cons h1 h2 => exact .cons h1 (RpL.take n h2)
theorem RpL.drop {G : Hp} : ∀ {ds : List PD} {vs : List V} (n : Nat), RpL G vs ds → RpL G (vs.drop n) (ds.drop n)
  | _, _, 0, h => h
  | [], _, _ + 1, h => by cases h; exact .nil
  | _ :: _, _, n + 1, h => by
    cases h with
    | cons h1 h2 => exact RpL.drop n h2
theorem RpL.set {G : Hp} {v : V} {d : PD} (r : Rp G v d) : ∀ {ds : List PD} {vs : List V} (n : Nat), RpL G vs ds → RpL G (vs.set n v) (ds.set n d)
  | [], _, _, h => by cases h; exact .nil
  | _ :: _, _, 0, h => by
    cases h with
    | cons h1 h2 => exact .cons r h2
  | _ :: _, _, n + 1, h => by
    cases h with
    | cons h1 h2 => exact .cons h1 (RpL.set r n h2)
theorem RpL.eraseIdx {G : Hp} : ∀ {ds : List PD} {vs : List V} (n : Nat), RpL G vs ds → RpL G (vs.eraseIdx n) (ds.eraseIdx n)
  | [], _, _, h => by cases h; exact .nil
  | _ :: _, _, 0, h => by
    cases h with
    | cons h1 h2 => exact h2
  | _ :: _, _, n + 1, h => by
    cases h with
    | cons h1 h2 => exact .cons h1 (RpL.eraseIdx n h2)
theorem RpL.reverse {G : Hp} : ∀ {ds : List PD} {vs : List V}, RpL G vs ds → RpL G vs.reverse ds.reverse
  | [], _, h => by cases h; exact .nil
  | _ :: _, _, h => by
    cases h with
    | cons h1 h2 =>
      rw [List.reverse_cons, List.reverse_cons]
      exact (RpL.reverse h2).append (RpL.one h1)
theorem RpL.replicate {G : Hp} {v : V} {d : PD} (h : Rp G v d) : ∀ n : Nat, RpL G (List.replicate n v) (List.replicate n d)
  | 0 => .nil
  | n + 1 => .cons h (RpL.replicate h n)
theorem RpL.ints {G : Hp} : ∀ {ns : List Int} {vs : List V}, RpL G vs (ns.map PyData.int) → vs = ns.map V.int
  | [], _, h => by cases h; rfl
  | _ :: _, _, h => by
    cases h with
    | cons h1 h2 => cases h1; rw [RpL.ints h2]; rfl
theorem RpL.ofInts {G : Hp} : ∀ (ns : List Int), RpL G (ns.map V.int) (ns.map PyData.int)
  | [] => .nil
  | n :: ns => .cons (.int n) (RpL.ofInts ns)
theorem RpL.bls {G : Hp} : ∀ {ns : List Bool} {vs : List V}, RpL G vs (ns.map PyData.bool) → vs = ns.map V.bl
  | [], _, h => by cases h; rfl
  | _ :: _, _, h => by
    cases h with
    | cons h1 h2 => cases h1; rw [RpL.bls h2]; rfl

/-! ### heaps: G, the part that stays for good, within H -/
/-- a tuple stays as it is: it may come to the part for good at any time -/
def fixd : HO → Bool
  | .tup _ => true
  | .xd _ => true
  | _ => false
structure Grow (H G H' G' : Hp) : Prop where
  h : Same H H'
  g : Same G G'
  s : Same G' H'
  a : ∀ b o, fixd o = false → G b = none → H b = some o → G' b = none
theorem Grow.refl {H G : Hp} (s : Same G H) : Grow H G H G := ⟨Same.refl H, Same.refl G, s, fun _ _ _ h _ => h⟩
theorem Grow.trans {H G H1 G1 H2 G2 : Hp} (a : Grow H G H1 G1) (b : Grow H1 G1 H2 G2) : Grow H G H2 G2 :=
  ⟨a.h.trans b.h, a.g.trans b.g, b.s, fun c o f h q => b.a c o f (a.a c o f h q) (a.h c o q)⟩
theorem Same.new {H : Hp} {p : Addr} {o : HO} (h : H p = none) : Same H (upd H p o) := fun a u e => by
  rw [upd_ne (ne_of_none e h)]
  exact e
/-- a new thing, kept apart -/
theorem Grow.own {H G : Hp} {p : Addr} {o : HO} (s : Same G H) (h : H p = none) : Grow H G (upd H p o) G :=
  ⟨Same.new h, Same.refl G, s.trans (Same.new h), fun _ _ _ q _ => q⟩
/-- a new thing, for good -/
theorem Grow.lay {H G : Hp} {p : Addr} {o : HO} (s : Same G H) (h : H p = none) : Grow H G (upd H p o) (upd G p o) := by
  refine ⟨Same.new h, Same.new (s.free h), fun a u e => ?_, fun b u _ q r => ?_⟩
  · by_cases hb : a = p
    · subst hb; rw [upd_same] at e ⊢; exact e
    · rw [upd_ne hb] at e ⊢; exact s a u e
  · rw [upd_ne (ne_of_none r h)]; exact q
/-- a thing that was apart is for good -/
theorem Grow.keep {H G H' G' : Hp} {p : Addr} {o : HO} (w : Grow H G H' G') (h : H p = none) (h' : H' p = some o) (n : G' p = none) : Grow H G H' (upd G' p o) := by
  refine ⟨w.h, w.g.trans (Same.new n), fun a u e => ?_, fun b u f q r => ?_⟩
  · by_cases hb : a = p
    · subst hb; rw [upd_same] at e; rw [h']; exact e
    · rw [upd_ne hb] at e; exact w.s a u e
  · rw [upd_ne (ne_of_none r h)]; exact w.a b u f q r

/-- an exception's dict: it stays as it is -/
theorem Grow.xdK {H G H' G' : Hp} {d : Addr} {fs : List (Str × V)} (w : Grow H G H' G') (h : H' d = some (.xd fs)) : ∃ G2, Grow H G H' G2 ∧ Same G' G2 ∧ G2 d = some (.xd fs) := by
  cases q : G' d with
  | some u =>
    have e := w.s d u q
    rw [h] at e
    cases e
    exact ⟨G', w, Same.refl G', q⟩
  | none =>
    refine ⟨upd G' d (.xd fs), ⟨w.h, w.g.trans (Same.new q), fun a u e => ?_, fun b u f n r => ?_⟩, Same.new q, upd_same⟩
    · by_cases hb : a = d
      · subst hb; rw [upd_same] at e; rw [h]; exact e
      · rw [upd_ne hb] at e; exact w.s a u e
    · by_cases hb : b = d
      · subst hb
        have e := w.h _ _ r
        rw [h] at e
        cases e
        cases f
      · rw [upd_ne hb]; exact w.a b u f n r

/-! ### what a slot or a value holds -/
inductive R where
  /-- data for good -/
  | d (x : PD)
  /-- a list apart: true: just made; false: a slot's own -/
  | l (b : Bool) (xs : List PD)
  /-- a dict apart, by tuples; by ints and texts -/
  | T (b : Bool) (kvs : List (List Key × PD))
  | M (b : Bool) (kvs : List (Key × PD))
  /-- the script, or what is only read -/
  | s (ns : List Int)
  /-- a set just made -/
  | z (xs : List PD)
  /-- a caught exception: its class, its field -/
  | e (x : Str) (at_ : Option Int)
  /-- a def of the top -/
  | f (x : Str)
  /-- an instance apart: its class, its fields, each a list of its own -/
  | o (op : Option Addr) (x : Str) (fs : List (Str × List PD))
  /-- an instance for good, only read -/
  | io (x : Str) (fs : List (Str × List PD))
  /-- a slot's own list at a place that is told: nothing can be done with it, meanwhile -/
  | lk (p : Addr) (xs : List PD)
  /-- an empty dict for good -/
  | q
  /-- a dict apart, each value a list of its own -/
  | D (kvs : List (Key × List PD))
inductive Er where
  | stuck
  | exc (x : Str) (at_ : Option Int)
abbrev M := Except Er
abbrev Sl := List (Option R)
def R.own : R → Bool
  | .l _ _ => true
  | .T _ _ => true
  | .M _ _ => true
  | .o _ _ _ => true
  | .lk _ _ => true
  | .D _ => true
  | _ => false
def R.isO : R → Bool
  | .o _ _ _ => true
  | .D _ => true
  | _ => false
def R.new : R → Bool
  | .l b _ => b
  | .T b _ => b
  | .M b _ => b
  | _ => false
/-- as a slot holds it -/
def R.held : R → R
  | .l _ xs => .l false xs
  | .T _ k => .T false k
  | .M _ k => .M false k
  | r => r
/-- as a def hands it back -/
def R.back : R → R
  | .l _ xs => .l true xs
  | .T _ k => .T true k
  | .M _ k => .M true k
  | r => r
/-- the world that the layer speaks of: the written part, the module's names; an exception's object; a set -/
structure Wd where
  K : PySem.W.Frag
  mg : Str → Option Value
  exo : Str → Option Int → Addr → Hp → Prop := fun _ _ _ _ => False
  seto : List PD → Addr → Hp → Prop := fun _ _ _ => False
/-- an instance's fields -/
inductive FlR {α : Type} (H G : Hp) : List (α × V) → List (α × List PD) → Prop
  | nil : FlR H G [] []
  | cons {f : α} {q : Addr} {vs : List V} {xs : List PD} {r : List (α × V)} {s : List (α × List PD)} : G q = none → H q = some (.lst vs) → RpL G vs xs → (∀ g, (g, V.ref q) ∉ r) → FlR H G r s → FlR H G ((f, .ref q) :: r) ((f, xs) :: s)
theorem FlR.has {α : Type} {H G : Hp} {vf : List (α × V)} {fs : List (α × List PD)} (h : FlR H G vf fs) : ∀ {f : α} {u : V}, (f, u) ∈ vf → ∃ q vs, u = .ref q ∧ G q = none ∧ H q = some (.lst vs) := by
  induction h with
  | nil => intro f u m; cases m
  | cons a b _ _ _ ih =>
    intro f u m
    rcases List.mem_cons.mp m with e | m
    · cases e; exact ⟨_, _, rfl, a, b⟩
    · exact ih m
theorem FlR.grow {α : Type} {H G H' G' : Hp} (g : Grow H G H' G') {vf : List (α × V)} {fs : List (α × List PD)} (h : FlR H G vf fs) : FlR H' G' vf fs := by
  induction h with
  | nil => exact .nil
  | cons a b c d _ ih => exact .cons (g.a _ _ rfl a b) (g.h _ _ b) (RpL.mono g.g _ _ c) d ih
theorem FlR.other {α : Type} {H G : Hp} {q : Addr} {o : HO} {vf : List (α × V)} {fs : List (α × List PD)} (h : FlR H G vf fs) : (∀ f, (f, V.ref q) ∉ vf) → FlR (upd H q o) G vf fs := by
  induction h with
  | nil => intro _; exact .nil
  | @cons f p vs xs r s a b c d _ ih =>
    intro hn
    have hne : p ≠ q := fun e => hn f (by rw [e]; exact List.mem_cons_self)
    exact .cons a (by rw [upd_ne hne]; exact b) c d (ih fun g m => hn g (List.mem_cons_of_mem _ m))
/-- something else comes to the part for good -/
theorem FlR.good {α : Type} {H G : Hp} {q : Addr} {o : HO} (nq : G q = none) {vf : List (α × V)} {fs : List (α × List PD)} (h : FlR H G vf fs) : (∀ f, (f, V.ref q) ∉ vf) → FlR H (upd G q o) vf fs := by
  induction h with
  | nil => intro _; exact .nil
  | @cons f p vs xs r s a b c d _ ih =>
    intro hn
    have hne : p ≠ q := fun e => hn f (by rw [e]; exact List.mem_cons_self)
    exact .cons (by rw [upd_ne hne]; exact a) b (RpL.mono (Same.new nq) _ _ c) d (ih fun g m => hn g (List.mem_cons_of_mem _ m))
/-- the fields of an instance for good -/
inductive FlG (G : Hp) : List (Str × V) → List (Str × List PD) → Prop
  | nil : FlG G [] []
  | cons {f : Str} {q : Addr} {vs : List V} {xs : List PD} {r : List (Str × V)} {s : List (Str × List PD)} : G q = some (.lst vs) → RpL G vs xs → FlG G r s → FlG G ((f, .ref q) :: r) ((f, xs) :: s)
theorem FlG.mono {G G' : Hp} (g : Same G G') {vf : List (Str × V)} {fs : List (Str × List PD)} (h : FlG G vf fs) : FlG G' vf fs := by
  induction h with
  | nil => exact .nil
  | cons b c _ ih => exact .cons (g _ _ b) (RpL.mono g _ _ c) ih
variable (w : Wd)
def Rr (H G : Hp) (v : V) : R → Prop
  | .d x => Rp G v x
  | .l _ xs => ∃ p vs, v = .ref p ∧ G p = none ∧ H p = some (.lst vs) ∧ RpL G vs xs
  | .T _ kvs => ∃ p kv, v = .ref p ∧ G p = none ∧ H p = some (.dT kv) ∧ kv.map (·.1) = kvs.map (·.1) ∧ RpL G (kv.map (·.2)) (kvs.map (·.2))
  | .M _ kvs => ∃ p kv, v = .ref p ∧ G p = none ∧ H p = some (.dK kv) ∧ kv.map (·.1) = kvs.map (·.1) ∧ RpL G (kv.map (·.2)) (kvs.map (·.2))
  | .s ns => ∃ p, v = .ref p ∧ SqL w.K G p (ns.map V.int)
  | .z xs => ∃ p, v = .ref p ∧ w.seto xs p G
  | .e x i => ∃ p, v = .ref p ∧ w.exo x i p G
  | .f x => ∃ p, v = .ref p ∧ w.mg x = some (.ref p)
  | .o op x fs => ∃ p C dx vf, v = .ref p ∧ (∀ q, op = some q → q = p) ∧ w.mg x = some (.ref C) ∧ G p = none ∧ H p = some (.ins C dx vf) ∧ FlR H G vf fs
  | .io x fs => ∃ p C dx vf, v = .ref p ∧ w.mg x = some (.ref C) ∧ G p = some (.ins C dx vf) ∧ FlG G vf fs
  | .lk p xs => ∃ vs, v = .ref p ∧ G p = none ∧ H p = some (.lst vs) ∧ RpL G vs xs
  | .q => ∃ p, v = .ref p ∧ G p = some (.dK [])
  | .D kvs => ∃ p kv, v = .ref p ∧ G p = none ∧ H p = some (.dK kv) ∧ FlR H G kv kvs
/-- the places of an own thing -/
def foot (H : Hp) : R → V → Addr → Prop
  | .l _ _, v, a => v = .ref a
  | .T _ _, v, a => v = .ref a
  | .M _ _, v, a => v = .ref a
  | .lk _ _, v, a => v = .ref a
  | .o _ _ _, v, a => v = .ref a ∨ ∃ p C dx vf f, v = .ref p ∧ H p = some (.ins C dx vf) ∧ (f, V.ref a) ∈ vf
  | .D _, v, a => v = .ref a ∨ ∃ p kv k, v = .ref p ∧ H p = some (.dK kv) ∧ (k, V.ref a) ∈ kv
  | _, _, _ => False
/-- just made: not there before -/
def Fr (H : Hp) (v : V) (r : R) : Prop := r.new = true → ∀ p, v = .ref p → H p = none
/-- a world's own things stay where the heap grows -/
structure Wd.Ok : Prop where
  exo : ∀ x i p H H', Same H H' → w.exo x i p H → w.exo x i p H'
  seto : ∀ xs p H H', Same H H' → w.seto xs p H → w.seto xs p H'
variable {w}
theorem Rr.mono {H G H' G' : Hp} (ok : w.Ok) (g : Grow H G H' G') : ∀ {r : R} {v : V}, Rr w H G v r → Rr w H' G' v r
  | .d x, v, h => Rp.mono g.g x v h
  | .l _ xs, v, ⟨p, vs, e, n, h, q⟩ => ⟨p, vs, e, g.a p _ rfl n h, g.h p _ h, RpL.mono g.g _ _ q⟩
  | .T _ _, v, ⟨p, vs, e, n, h, k, q⟩ => ⟨p, vs, e, g.a p _ rfl n h, g.h p _ h, k, RpL.mono g.g _ _ q⟩
  | .M _ _, v, ⟨p, vs, e, n, h, k, q⟩ => ⟨p, vs, e, g.a p _ rfl n h, g.h p _ h, k, RpL.mono g.g _ _ q⟩
  | .s _, v, ⟨p, e, h⟩ => ⟨p, e, g.g.seq h⟩
  | .z _, v, ⟨p, e, h⟩ => ⟨p, e, ok.seto _ _ _ _ g.g h⟩
  | .e _ _, v, ⟨p, e, h⟩ => ⟨p, e, ok.exo _ _ _ _ _ g.g h⟩
  | .f _, v, ⟨p, e, h⟩ => ⟨p, e, h⟩
  | .o _ _ _, v, ⟨p, C, dx, vf, e, op, m, n, h, q⟩ => ⟨p, C, dx, vf, e, op, m, g.a p _ rfl n h, g.h p _ h, q.grow g⟩
  | .io _ _, v, ⟨p, C, dx, vf, e, m, h, q⟩ => ⟨p, C, dx, vf, e, m, g.g p _ h, q.mono g.g⟩
  | .lk _ _, v, ⟨vs, e, n, h, q⟩ => ⟨vs, e, g.a _ _ rfl n h, g.h _ _ h, RpL.mono g.g _ _ q⟩
  | .q, v, ⟨p, e, h⟩ => ⟨p, e, g.g _ _ h⟩
  | .D _, v, ⟨p, kv, e, n, h, q⟩ => ⟨p, kv, e, g.a p _ rfl n h, g.h p _ h, q.grow g⟩
theorem Rr.held {H G : Hp} : ∀ {r : R} {v : V}, Rr w H G v r → Rr w H G v r.held
  | .d _, _, h => h
  | .l _ _, _, h => h
  | .T _ _, _, h => h
  | .M _ _, _, h => h
  | .s _, _, h => h
  | .z _, _, h => h
  | .e _ _, _, h => h
  | .f _, _, h => h
  | .o _ _ _, _, h => h
  | .io _ _, _, h => h
  | .lk _ _, _, h => h
  | .q, _, h => h
  | .D _, _, h => h
theorem Rr.back {H G : Hp} : ∀ {r : R} {v : V}, Rr w H G v r → Rr w H G v r.back
  | .d _, _, h => h
  | .l _ _, _, h => h
  | .T _ _, _, h => h
  | .M _ _, _, h => h
  | .s _, _, h => h
  | .z _, _, h => h
  | .e _ _, _, h => h
  | .f _, _, h => h
  | .o _ _ _, _, h => h
  | .io _ _, _, h => h
  | .lk _ _, _, h => h
  | .q, _, h => h
  | .D _, _, h => h
/-- an own thing's place -/
theorem Rr.place {H G : Hp} : ∀ {r : R} {v : V}, r.own = true → Rr w H G v r → ∃ p o, v = .ref p ∧ G p = none ∧ H p = some o
  | .l _ _, _, _, ⟨p, vs, e, n, h, _⟩ => ⟨p, _, e, n, h⟩
  | .T _ _, _, _, ⟨p, vs, e, n, h, _⟩ => ⟨p, _, e, n, h⟩
  | .M _ _, _, _, ⟨p, vs, e, n, h, _⟩ => ⟨p, _, e, n, h⟩
  | .o _ _ _, _, _, ⟨p, C, dx, vf, e, _, m, n, h, _⟩ => ⟨p, _, e, n, h⟩
  | .io _ _, _, q, _ => by cases q
  | .lk _ _, _, _, ⟨vs, e, n, h, _⟩ => ⟨_, _, e, n, h⟩
  | .q, _, q, _ => by cases q
  | .D _, _, _, ⟨p, kv, e, n, h, _⟩ => ⟨p, _, e, n, h⟩
  | .d _, _, q, _ => by cases q
  | .s _, _, q, _ => by cases q
  | .z _, _, q, _ => by cases q
  | .e _ _, _, q, _ => by cases q
  | .f _, _, q, _ => by cases q
theorem foot_own {H : Hp} : ∀ {r : R} {v : V} {a : Addr}, foot H r v a → r.own = true
  | .l _ _, _, _, _ => rfl
  | .T _ _, _, _, _ => rfl
  | .M _ _, _, _, _ => rfl
  | .o _ _ _, _, _, _ => rfl
  | .io _ _, _, _, h => h.elim
  | .lk _ _, _, _, _ => rfl
  | .q, _, _, h => h.elim
  | .D _, _, _, _ => rfl
  | .d _, _, _, h => h.elim
  | .s _, _, _, h => h.elim
  | .z _, _, _, h => h.elim
  | .e _ _, _, _, h => h.elim
  | .f _, _, _, h => h.elim
theorem foot_self {H : Hp} {p : Addr} : ∀ {r : R}, r.own = true → foot H r (.ref p) p
  | .l _ _, _ => rfl
  | .T _ _, _ => rfl
  | .M _ _, _ => rfl
  | .o _ _ _, _ => .inl rfl
  | .io _ _, h => by cases h
  | .lk _ _, _ => rfl
  | .q, h => by cases h
  | .D _, _ => .inl rfl
  | .d _, h => by cases h
  | .s _, h => by cases h
  | .z _, h => by cases h
  | .e _ _, h => by cases h
  | .f _, h => by cases h
theorem foot_new {H : Hp} : ∀ {r : R} {v : V} {a : Addr}, r.new = true → foot H r v a → v = .ref a
  | .l _ _, _, _, _, h => h
  | .T _ _, _, _, _, h => h
  | .M _ _, _, _, _, h => h
  | .o _ _ _, _, _, q, _ => by cases q
  | .io _ _, _, _, q, _ => by cases q
  | .lk _ _, _, _, q, _ => by cases q
  | .q, _, _, _, h => h.elim
  | .D _, _, _, q, _ => by cases q
  | .d _, _, _, _, h => h.elim
  | .s _, _, _, _, h => h.elim
  | .z _, _, _, _, h => h.elim
  | .e _ _, _, _, _, h => h.elim
  | .f _, _, _, _, h => h.elim
theorem foot_held {H : Hp} : ∀ {r : R} {v : V} {a : Addr}, foot H r.held v a ↔ foot H r v a
  | .l _ _, _, _ => Iff.rfl
  | .T _ _, _, _ => Iff.rfl
  | .M _ _, _, _ => Iff.rfl
  | .o _ _ _, _, _ => Iff.rfl
  | .io _ _, _, _ => Iff.rfl
  | .lk _ _, _, _ => Iff.rfl
  | .q, _, _ => Iff.rfl
  | .D _, _, _ => Iff.rfl
  | .d _, _, _ => Iff.rfl
  | .s _, _, _ => Iff.rfl
  | .z _, _, _ => Iff.rfl
  | .e _ _, _, _ => Iff.rfl
  | .f _, _, _ => Iff.rfl
/-- what stands there -/
theorem foot_has {H G : Hp} : ∀ {r : R} {v : V} {a : Addr}, Rr w H G v r → foot H r v a → G a = none ∧ ∃ o, H a = some o ∧ fixd o = false
  | .l _ _, _, _, ⟨p, vs, e, n, h, _⟩, f => by have f := e.symm.trans f; cases f; exact ⟨n, _, h, rfl⟩
  | .T _ _, _, _, ⟨p, vs, e, n, h, _⟩, f => by have f := e.symm.trans f; cases f; exact ⟨n, _, h, rfl⟩
  | .M _ _, _, _, ⟨p, vs, e, n, h, _⟩, f => by have f := e.symm.trans f; cases f; exact ⟨n, _, h, rfl⟩
  | .io _ _, _, _, _, h => h.elim
  | .lk _ _, _, _, ⟨vs, e, n, h, _⟩, f => by have f := e.symm.trans f; cases f; exact ⟨n, _, h, rfl⟩
  | .q, _, _, _, h => h.elim
  | .D _, _, _, ⟨p, kv, e, n, h, q⟩, f => by
    rcases f with f | ⟨p', kv', k, e', h', m'⟩
    · have f := e.symm.trans f; cases f; exact ⟨n, _, h, rfl⟩
    · have z := e.symm.trans e'
      cases z
      rw [h] at h'
      cases h'
      obtain ⟨q', vs, e2, n2, h2⟩ := q.has m'
      cases e2
      exact ⟨n2, _, h2, rfl⟩
  | .o _ _ _, _, _, ⟨p, C, dx, vf, e, _, m, n, h, q⟩, f => by
    rcases f with f | ⟨p', C', dx', vf', g, e', h', m'⟩
    · have f := e.symm.trans f; cases f; exact ⟨n, _, h, rfl⟩
    · have z := e.symm.trans e'
      cases z
      rw [h] at h'
      cases h'
      obtain ⟨q', vs, e2, n2, h2⟩ := q.has m'
      cases e2
      exact ⟨n2, _, h2, rfl⟩
  | .d _, _, _, _, h => h.elim
  | .s _, _, _, _, h => h.elim
  | .z _, _, _, _, h => h.elim
  | .e _ _, _, _, _, h => h.elim
  | .f _, _, _, _, h => h.elim
theorem foot_same {H H' G : Hp} : ∀ {r : R} {v : V} {a : Addr}, (∀ p o, v = .ref p → H p = some o → H' p = some o) → Rr w H G v r → foot H' r v a → foot H r v a
  | .l _ _, _, _, _, _, f => f
  | .T _ _, _, _, _, _, f => f
  | .M _ _, _, _, _, _, f => f
  | .io _ _, _, _, _, _, h => h.elim
  | .lk _ _, _, _, _, _, f => f
  | .q, _, _, _, _, h => h.elim
  | .D _, _, _, s, ⟨p, kv, e, n, h, q⟩, f => by
    rcases f with f | ⟨p', kv', k, e', h', m'⟩
    · exact .inl f
    · have z := e.symm.trans e'
      cases z
      rw [s p _ e h] at h'
      cases h'
      exact .inr ⟨p, kv, k, e, h, m'⟩
  | .o _ _ _, _, _, s, ⟨p, C, dx, vf, e, _, m, n, h, q⟩, f => by
    rcases f with f | ⟨p', C', dx', vf', g, e', h', m'⟩
    · exact .inl f
    · have z := e.symm.trans e'
      cases z
      rw [s p _ e h] at h'
      cases h'
      exact .inr ⟨p, C, dx, vf, g, e, h, m'⟩
  | .d _, _, _, _, _, h => h.elim
  | .s _, _, _, _, _, h => h.elim
  | .z _, _, _, _, _, h => h.elim
  | .e _ _, _, _, _, _, h => h.elim
  | .f _, _, _, _, _, h => h.elim
/-- an own thing of another's slot is written: mine stands -/
theorem Rr.other {H G : Hp} {q : Addr} {o : HO} (hq : G q = none) : ∀ {r : R} {v : V}, (∀ a, foot H r v a → a ≠ q) → Rr w H G v r → Rr w (upd H q o) G v r
  | .d _, _, _, h => h
  | .l _ _, _, k, ⟨p, vs, e, n, h, x⟩ => ⟨p, vs, e, n, by rw [upd_ne (k p e)]; exact h, x⟩
  | .T _ _, _, k, ⟨p, vs, e, n, h, x⟩ => ⟨p, vs, e, n, by rw [upd_ne (k p e)]; exact h, x⟩
  | .M _ _, _, k, ⟨p, vs, e, n, h, x⟩ => ⟨p, vs, e, n, by rw [upd_ne (k p e)]; exact h, x⟩
  | .io _ _, _, _, h => h
  | .lk _ _, _, k, ⟨vs, e, n, h, x⟩ => ⟨vs, e, n, by rw [upd_ne (k _ e)]; exact h, x⟩
  | .q, _, _, h => h
  | .D _, _, k, ⟨p, kv, e, n, h, x⟩ => ⟨p, kv, e, n, by rw [upd_ne (k p (.inl e))]; exact h, x.other fun f hm => k q (.inr ⟨p, kv, f, e, h, hm⟩) rfl⟩
  | .o _ _ _, _, k, ⟨p, C, dx, vf, e, op, m, n, h, x⟩ => ⟨p, C, dx, vf, e, op, m, n, by rw [upd_ne (k p (.inl e))]; exact h, x.other fun f hm => k q (.inr ⟨p, C, dx, vf, f, e, h, hm⟩) rfl⟩
  | .s _, _, _, h => h
  | .z _, _, _, h => h
  | .e _ _, _, _, h => h
  | .f _, _, _, h => h
theorem foot_upd {H G : Hp} {q : Addr} {o : HO} {r : R} {v : V} {a : Addr} (k : ∀ a, foot H r v a → a ≠ q) (rr : Rr w H G v r) (f : foot (upd H q o) r v a) : foot H r v a := by
  refine foot_same (w := w) (G := G) (fun p o' e h => ?_) rr f
  cases ho : r.own with
  | true =>
    rw [upd_ne (k p (by rw [e]; exact foot_self ho))]
    exact h
  | false => exact absurd (foot_own f) (by rw [ho]; decide)
theorem Fr.mono {H H' : Hp} {v : V} {r : R} (s : Same H H') (h : Fr H' v r) : Fr H v r := fun a p e => s.free (h a p e)
/-! ### a frame's slots -/
variable (w)
structure Sim (H0 : Hp) (env : Sl) (σ : L2.St) (H G : Hp) : Prop where
  len : env.length = σ.length
  at_ : ∀ (i : Nat) (r : R), env[i]? = some (some r) → r.held = r ∧ ∃ v, σ[i]? = some (some v) ∧ Rr w H G v r ∧ (∀ a, foot H r v a → H0 a = none)
  inj : ∀ (i j : Nat) (r r' : R) (v v' : V) (a : Addr), env[i]? = some (some r) → env[j]? = some (some r') → σ[i]? = some (some v) → σ[j]? = some (some v') → foot H r v a → foot H r' v' a → i = j
variable {w}
theorem Sim.grow {H0 : Hp} {env : Sl} {σ : L2.St} {H G H' G' : Hp} (ok : w.Ok) (g : Grow H G H' G') (x : Sim w H0 env σ H G) : Sim w H0 env σ H' G' := by
  have low : ∀ {i : Nat} {r : R} {v : V} {a : Addr}, env[i]? = some (some r) → σ[i]? = some (some v) → foot H' r v a → foot H r v a := fun {i r v a} e s f => by
    obtain ⟨_, u, b, c, _⟩ := x.at_ i r e
    rw [s] at b
    cases b
    exact foot_same (fun p o _ h => g.h p o h) c f
  exact ⟨x.len, fun i r e => let ⟨q, v, a, b, c⟩ := x.at_ i r e; ⟨q, v, a, b.mono ok g, fun y f => c y (low e a f)⟩, fun i j r r' v v' a e e' s s' f f' => x.inj i j r r' v v' a e e' s s' (low e s f) (low e' s' f')⟩
end Vs
end
section
namespace Vs
open PySem PySem.Spec PyProof.Rows L2

variable {w : Wd} {W : WX}
/-- what an outcome wants of the wishes: Q of a value, W of an exception -/
def PostE (w : Wd) (W : WX) (σ : L2.St) (H G : Hp) : M R → VK → Prop
  | .ok r, Q => ∀ v H' G', Grow H G H' G' → Rr w H' G' v r → Fr H v r → Q v H'
  | .error (.exc x none), _ => ∀ C H' G', w.mg x = some (.ref C) → Grow H G H' G' → W (.ref C) none σ H'
  | .error (.exc x (some i)), _ => ∀ C d H' G', w.mg x = some (.ref C) → Grow H G H' G' → H' d = some (.xd [(("at" : Str), V.int i)]) → W (.ref C) (some d) σ H'
  | .error .stuck, _ => False
/-- an exception's part of a wish, whatever the outcome's kind -/
def PostX (w : Wd) (W : WX) (σ : L2.St) (H G : Hp) : Er → Prop
  | .exc x none => ∀ C H' G', w.mg x = some (.ref C) → Grow H G H' G' → W (.ref C) none σ H'
  | .exc x (some i) => ∀ C d H' G', w.mg x = some (.ref C) → Grow H G H' G' → H' d = some (.xd [(("at" : Str), V.int i)]) → W (.ref C) (some d) σ H'
  | .stuck => False
theorem PostE.err {σ : L2.St} {H G : Hp} {e : Er} {Q : VK} : PostE w W σ H G (.error e) Q ↔ PostX w W σ H G e := by
  cases e with
  | stuck => exact Iff.rfl
  | exc x i => cases i <;> exact Iff.rfl
theorem PostX.grow {σ : L2.St} {H G H' G' : Hp} {e : Er} (g : Grow H G H' G') (h : PostX w W σ H G e) : PostX w W σ H' G' e := by
  cases e with
  | stuck => exact h
  | exc x i =>
    cases i with
    | none => exact fun C H2 G2 m g2 => h C H2 G2 m (g.trans g2)
    | some j => exact fun C d H2 G2 m g2 e => h C d H2 G2 m (g.trans g2) e
/-- the reading of an expression that does f -/
def rdE (w : Wd) (W : WX) (f : Sl → M R) : TE := fun σ H Q => ∃ H0 B env G, Grow H0 B H G ∧ Sim w H0 env σ H G ∧ PostE w W σ H G (f env) Q
def PostT (w : Wd) (W : WX) (σ : L2.St) (H G : Hp) : M Bool → (Bool → Hp → Prop) → Prop
  | .ok b, Q => ∀ H' G', Grow H G H' G' → Q b H'
  | .error e, _ => PostX w W σ H G e
def rdT (w : Wd) (W : WX) (f : Sl → M Bool) : TT := fun σ H Q => ∃ H0 B env G, Grow H0 B H G ∧ Sim w H0 env σ H G ∧ PostT w W σ H G (f env) Q
/-- several values, in a row -/
inductive RrL (w : Wd) (H G : Hp) : List V → List R → Prop
  | nil : RrL w H G [] []
  | cons {v : V} {vs : List V} {r : R} {rs : List R} : Rr w H G v r → RrL w H G vs rs → RrL w H G (v :: vs) (r :: rs)
def FrL (H : Hp) : List V → List R → Prop
  | v :: vs, r :: rs => Fr H v r ∧ FrL H vs rs
  | _, _ => True
def PostA (w : Wd) (W : WX) (σ : L2.St) (H G : Hp) : M (List R) → (List V → Hp → Prop) → Prop
  | .ok rs, Q => ∀ vs H' G', Grow H G H' G' → RrL w H' G' vs rs → FrL H vs rs → Q vs H'
  | .error e, _ => PostX w W σ H G e
def rdA (w : Wd) (W : WX) (f : Sl → M (List R)) : TA := fun σ H Q => ∃ H0 B env G, Grow H0 B H G ∧ Sim w H0 env σ H G ∧ PostA w W σ H G (f env) Q
theorem RrL.mono {H G H' G' : Hp} (ok : w.Ok) (g : Grow H G H' G') {vs : List V} {rs : List R} (h : RrL w H G vs rs) : RrL w H' G' vs rs := by
  induction h with
  | nil => exact .nil
  | cons a _ ih => exact .cons (a.mono ok g) ih
theorem FrL.mono {H H' : Hp} (s : Same H H') : ∀ {vs : List V} {rs : List R}, FrL H' vs rs → FrL H vs rs
  | [], _, _ => trivial
  | _ :: _, [], _ => trivial
  | _ :: _, _ :: _, ⟨a, b⟩ => ⟨a.mono s, FrL.mono s b⟩
theorem RrL.length {H G : Hp} {vs : List V} {rs : List R} (h : RrL w H G vs rs) : vs.length = rs.length := by
  induction h with
  | nil => rfl
  | cons _ _ ih => simp [ih]

/-! ### readings weakened -/
section
variable {X : Cx}
theorem PEi {e : Expr} {t t' : TE} (h : PE X e t) (i : ∀ σ H Q, t' σ H Q → t σ H Q) : PE X e t' := ⟨fun pins s σ H Q I x => h.run pins s σ H Q I (i σ H Q x)⟩
theorem PTi {e : Expr} {t t' : TT} (h : PT X e t) (i : ∀ σ H Q, t' σ H Q → t σ H Q) : PT X e t' := ⟨fun pins s σ H Q I x => h.run pins s σ H Q I (i σ H Q x)⟩
theorem PWi {e : Expr} {t t' : TT} (h : PW X e t) (i : ∀ σ H Q, t' σ H Q → t σ H Q) : PW X e t' := ⟨fun wh pins s σ H Q I x => h.run wh pins s σ H Q I (i σ H Q x)⟩
theorem PAi {e : List Expr} {t t' : TA} (h : PA X e t) (i : ∀ σ H Q, t' σ H Q → t σ H Q) : PA X e t' := ⟨fun pos pins s σ H Q I x => h.run pos pins s σ H Q I (i σ H Q x)⟩
theorem PSi {e : Stmt} {t t' : TS} (h : PS X e t) (i : ∀ D σ H, t' D σ H → t D σ H) : PS X e t' := ⟨fun pins s σ H D I x => h.run pins s σ H D I (i D σ H x)⟩
theorem PSsi {e : List Stmt} {t t' : TS} (h : PSs X e t) (i : ∀ D σ H, t' D σ H → t D σ H) : PSs X e t' := ⟨fun pins s σ H D I x => h.run pins s σ H D I (i D σ H x)⟩
end

/-! ### the steps of an expression -/
/-- first a, then with its value what follows -/
theorem rdE_bind {fa : Sl → M R} {k : R → M R} {k' : V → Hp → Prop} {σ : L2.St} {H : Hp} {Q : VK} {H0 B : Hp} {env : Sl} {G : Hp} (ok : w.Ok) (g : Grow H0 B H G) (x : Sim w H0 env σ H G) (h : PostE w W σ H G ((fa env).bind k) Q)
    (hk : ∀ r v H1 G1, Grow H G H1 G1 → Rr w H1 G1 v r → Fr H v r → Grow H0 B H1 G1 → Sim w H0 env σ H1 G1 → PostE w W σ H1 G1 (k r) Q → k' v H1) : rdE w W fa σ H k' := by
  refine ⟨H0, B, env, G, g, x, ?_⟩
  cases e : fa env with
  | error er =>
    rw [e] at h
    exact PostE.err.mpr (PostE.err.mp h)
  | ok r =>
    rw [e] at h
    intro v H1 G1 g1 rr fr
    refine hk r v H1 G1 g1 rr fr (g.trans g1) (x.grow ok g1) ?_
    have h : PostE w W σ H G (k r) Q := h
    cases e2 : k r with
    | error er =>
      rw [e2] at h
      exact PostE.err.mpr ((PostE.err.mp h).grow g1)
    | ok r2 =>
      rw [e2] at h
      exact fun v2 H2 G2 g2 rr2 fr2 => h v2 H2 G2 (g1.trans g2) rr2 (fr2.mono g1.h)
/-- a value at once -/
theorem PostE.done {σ : L2.St} {H G : Hp} {r : R} {Q : VK} {v : V} (h : PostE w W σ H G (.ok r) Q) (s : Same G H) (rr : Rr w H G v r) (fr : Fr H v r) : Q v H := h v H G (Grow.refl s) rr fr
theorem Fr.no {H : Hp} {v : V} {r : R} (h : r.new = false) : Fr H v r := fun q => by rw [h] at q; cases q

theorem held_new {r : R} (h : r.held = r) : r.new = false := by
  cases r with
  | l b xs => injection h with h1; subst h1; rfl
  | T b xs => injection h with h1; subst h1; rfl
  | M b xs => injection h with h1; subst h1; rfl
  | _ => rfl
/-! ### names and constants -/
section
variable {X : Cx}
def eVar (i : Nat) : Sl → M R := fun env => match env[i]? with
  | some (some r) => .ok r
  | _ => .error .stuck
theorem xe_var (i : Nat) {x : Str} {pos : Pos} (hN : X.N[i]? = some x := by rfl) (hv : Vis X.env.scope x := by first | exact Or.inl rfl | exact Or.inr (Or.inl rfl) | exact Or.inr (Or.inr rfl)) (hd : (x == ("__debug__" : Str)) = false := by decide)
    (hcd : (x == ("__classdict__" : Str)) = false := by decide) : PE X (.Name x pos) (rdE w W (eVar i)) := by
  refine PEi (pe_var hN hv hd hcd) fun σ H Q h => ?_
  obtain ⟨H0, B, env, G, g, x, h⟩ := h
  unfold eVar at h
  split at h
  · rename_i r e
    obtain ⟨hh, v, hv, rr, _⟩ := x.at_ i r e
    refine ⟨v, hv, h.done g.s rr (Fr.no ?_)⟩
    exact held_new hh
  · exact h.elim
def eC (d : PD) : Sl → M R := fun _ => .ok (.d d)
theorem xe_int {i j pos} : PE X (.Constant (.int i) j pos) (rdE w W (eC (.int i))) := PEi pe_int fun _ _ _ ⟨_, _, _, _, g, _, h⟩ => h.done g.s (.int i) (Fr.no rfl)
theorem xe_bl {b j pos} : PE X (.Constant (.bool b) j pos) (rdE w W (eC (.bool b))) := PEi pe_bl fun _ _ _ ⟨_, _, _, _, g, _, h⟩ => h.done g.s (.bl b) (Fr.no rfl)
theorem xe_non {j pos} : PE X (.Constant .none j pos) (rdE w W (eC .none)) := PEi pe_non fun _ _ _ ⟨_, _, _, _, g, _, h⟩ => h.done g.s .non (Fr.no rfl)
theorem xe_str {x j pos} : PE X (.Constant (.str x) j pos) (rdE w W (eC (.str x))) := PEi pe_str fun _ _ _ ⟨_, _, _, _, g, _, h⟩ => h.done g.s (.str x) (Fr.no rfl)
/-- a module's plain constant -/
theorem xe_globI {x : Str} {i : Int} {t : Tok} {pos : Pos} (hg : Gl X x) (hm : X.mg x = some (.int i t)) (hd : (x == ("__debug__" : Str)) = false := by decide) : PE X (.Name x pos) (rdE w W (eC (.int i))) :=
  PEi (pe_glob (v := .int i) hg hm ⟨_, rfl⟩ hd) fun _ _ _ ⟨_, _, _, _, g, _, h⟩ => h.done g.s (.int i) (Fr.no rfl)
theorem xe_globS {x y : Str} {t : Tok} {pos : Pos} (hg : Gl X x) (hm : X.mg x = some (.str y t)) (hd : (x == ("__debug__" : Str)) = false := by decide) : PE X (.Name x pos) (rdE w W (eC (.str y))) :=
  PEi (pe_glob (v := .str y) hg hm ⟨_, rfl⟩ hd) fun _ _ _ ⟨_, _, _, _, g, _, h⟩ => h.done g.s (.str y) (Fr.no rfl)

/-! ### operations of two values -/
abbrev Op := R → R → M R
def eOp (o : Op) (fa fb : Sl → M R) : Sl → M R := fun env => (fa env).bind fun x => (fb env).bind fun y => o x y
/-- the value's end: no exception -/
def PostO (w : Wd) (H G : Hp) : M R → VK → Prop
  | .ok r, Q => ∀ v H' G', Grow H G H' G' → Rr w H' G' v r → Fr H v r → Q v H'
  | .error _, _ => False
theorem PostO.done {H G : Hp} {r : R} {Q : VK} {v : V} (h : PostO w H G (.ok r) Q) (s : Same G H) (rr : Rr w H G v r) (fr : Fr H v r) : Q v H := h v H G (Grow.refl s) rr fr
/-- the operation r2 on values does o -/
def OpS (w : Wd) (r2 : R2) (o : Op) : Prop := ∀ (H G : Hp) (v1 v2 : V) (r1 r2' : R) (Q : VK), Same G H → Rr w H G v1 r1 → Rr w H G v2 r2' → PostO w H G (o r1 r2') Q → r2 v1 v2 H Q
/-- an operation tells no exception: it is stuck or done -/
def Tame (o : Op) : Prop := ∀ a b x i, o a b ≠ .error (.exc x i)
theorem PostE.o {σ : L2.St} {H G : Hp} {m : M R} {Q : VK} (ht : ∀ x i, m ≠ .error (.exc x i)) (h : PostE w W σ H G m Q) : PostO w H G m Q := by
  cases m with
  | ok r => exact h
  | error e =>
    cases e with
    | stuck => exact h
    | exc x i => exact absurd rfl (ht x i)
theorem rd_op {r2 : R2} {o : Op} {fa fb : Sl → M R} (ok : w.Ok) (hs : OpS w r2 o) (ht : Tame o) (σ : L2.St) (H : Hp) (Q : VK) (h : rdE w W (eOp o fa fb) σ H Q) : tOp r2 (rdE w W fa) (rdE w W fb) σ H Q := by
  obtain ⟨H0, B, env, G, g, x, h⟩ := h
  refine rdE_bind ok g x h fun r1 v1 H1 G1 g1 rr1 _ g01 x1 h1 => ?_
  refine rdE_bind ok g01 x1 h1 fun r2 v2 H2 G2 g2 rr2 _ g02 x2 h2 => ?_
  exact hs H2 G2 v1 v2 r1 r2 Q g2.s (rr1.mono ok g2) rr2 (h2.o (ht _ _))
theorem xe_op {a b : Expr} {op : Operator} {pos : Pos} {r2 : R2} {o : Op} {fa fb : Sl → M R} (ok : w.Ok) (ho : OpR X (binaryOp op) r2) (hs : OpS w r2 o) (ht : Tame o) (ha : PE X a (rdE w W fa)) (hb : PE X b (rdE w W fb)) : PE X (.BinOp a op b pos) (rdE w W (eOp o fa fb)) :=
  PEi (pe_op ho ha hb) (rd_op ok hs ht)
theorem xe_cmp {a b : Expr} {op : CmpOp} {pos : Pos} {r2 : R2} {o : Op} {fa fb : Sl → M R} (ok : w.Ok) (ho : OpR X (compareOp op) r2) (hs : OpS w r2 o) (ht : Tame o) (ha : PE X a (rdE w W fa)) (hb : PE X b (rdE w W fb)) (hm : behindInMarks op b = false) :
    PE X (.Compare a [op] [b] pos) (rdE w W (eOp o fa fb)) := PEi (pe_cmpR ho ha hb hm) (rd_op ok hs ht)
/-- of a value its truth, a bool alone -/
def bo : R → M Bool
  | .d (.bool b) => .ok b
  | _ => .error .stuck
def tV (f : Sl → M R) : Sl → M Bool := fun env => (f env).bind bo
theorem rd_tV {f : Sl → M R} (ok : w.Ok) (σ : L2.St) (H : Hp) (Q : Bool → Hp → Prop) (h : rdT w W (tV f) σ H Q) : rdE w W f σ H fun x H1 => ∃ c, x = .bl c ∧ Q c H1 := by
  obtain ⟨H0, B, env, G, g, x, h⟩ := h
  refine ⟨H0, B, env, G, g, x, ?_⟩
  unfold tV at h
  cases e : f env with
  | error er => rw [e] at h; exact PostE.err.mpr h
  | ok r =>
    rw [e] at h
    intro v H1 G1 g1 rr _
    cases r with
    | d y =>
      cases y with
      | bool b =>
        cases rr
        exact ⟨b, rfl, h H1 G1 g1⟩
      | _ => exact h.elim
    | _ => exact h.elim
theorem xt_val {e : Expr} {f : Sl → M R} (ok : w.Ok) (h : PE X e (rdE w W f)) (he : ∀ whole, isTrue e X.env whole = (do let v ← whole; standAt e.pos; holding [v] (truthy v)) := by intro _; rfl) : PT X e (rdT w W (tV f)) :=
  PTi (pt_val h he) (rd_tV ok)
/-- a comparison as a test -/
theorem xt_cmp {a b : Expr} {op : CmpOp} {pos : Pos} {r2 : R2} {o : Op} {fa fb : Sl → M R} (ok : w.Ok) (ho : OpR X (compareOp op) r2) (hs : OpS w r2 o) (ht : Tame o) (ha : PE X a (rdE w W fa)) (hb : PE X b (rdE w W fb)) (hm : behindInMarks op b = false) :
    PT X (.Compare a [op] [b] pos) (rdT w W (tV (eOp o fa fb))) := by
  refine PTi (pt_cmpR ho ha hb hm) fun σ H Q h => ?_
  obtain ⟨H0, B, env, G, g, x, h⟩ := h
  refine rd_op ok hs ht σ H _ ⟨H0, B, env, G, g, x, ?_⟩
  unfold tV at h
  cases e : eOp o fa fb env with
  | error er => rw [e] at h; exact PostE.err.mpr h
  | ok r =>
    rw [e] at h
    intro v H1 G1 g1 rr _
    cases r with
    | d y =>
      cases y with
      | bool b =>
        cases rr
        exact ⟨b, rfl, h H1 G1 g1⟩
      | _ => exact h.elim
    | _ => exact h.elim
end
end Vs
end
section
namespace Vs
open PySem PySem.Spec PyProof.Rows L2

variable {w : Wd} {W : WX}
/-! ### a value seen as a list, a tuple, data -/
def R.lst? : R → Option (List PD)
  | .d (.list xs) => some xs
  | .l _ xs => some xs
  | _ => none
def R.sq? : R → Option (List PD)
  | .d (.list xs) => some xs
  | .l _ xs => some xs
  | .s ns => some (ns.map .int)
  | _ => none
def R.view : R → Option PD
  | .d x => some x
  | .l _ xs => some (.list xs)
  | .s ns => some (.list (ns.map .int))
  | _ => none
theorem Rr.lst {H G : Hp} (s : Same G H) : ∀ {r : R} {v : V} {xs : List PD}, r.lst? = some xs → Rr w H G v r → ∃ p vs, v = .ref p ∧ H p = some (.lst vs) ∧ RpL G vs xs := by
  intro r v xs e h
  cases r with
  | d x =>
    cases x with
    | list ys =>
      have e' : ys = xs := by simpa [R.lst?] using e
      subst e'
      cases h with
      | lst h1 h2 => exact ⟨_, _, rfl, s _ _ h1, h2⟩
    | _ => simp [R.lst?] at e
  | l b ys =>
    have e' : ys = xs := by simpa [R.lst?] using e
    subst e'
    obtain ⟨p, vs, q, _, h1, h2⟩ := h
    exact ⟨p, vs, q, h1, h2⟩
  | _ => simp [R.lst?] at e
theorem Rr.sq {H G : Hp} (s : Same G H) : ∀ {r : R} {v : V} {xs : List PD}, r.sq? = some xs → Rr w H G v r → ∃ p vs, v = .ref p ∧ SqL w.K H p vs ∧ RpL G vs xs := by
  intro r v xs e h
  cases r with
  | d x =>
    cases x with
    | list ys =>
      have e' : ys = xs := by simpa [R.sq?] using e
      subst e'
      cases h with
      | lst h1 h2 => exact ⟨_, _, rfl, SqL.of (s _ _ h1), h2⟩
    | _ => simp [R.sq?] at e
  | l b ys =>
    have e' : ys = xs := by simpa [R.sq?] using e
    subst e'
    obtain ⟨p, vs, q, _, h1, h2⟩ := h
    exact ⟨p, vs, q, SqL.of h1, h2⟩
  | s ns =>
    have e' : ns.map PyData.int = xs := by simpa [R.sq?] using e
    subst e'
    obtain ⟨p, q, h1⟩ := h
    exact ⟨p, _, q, s.seq h1, RpL.ofInts ns⟩
  | _ => simp [R.sq?] at e
theorem DpAll.ints {K : PySem.W.Frag} {H : Hp} : ∀ ns : List Int, DpAll K H (ns.map V.int) (ns.map PyData.int)
  | [] => .nil
  | n :: ns => .cons (.int n) (DpAll.ints ns)
theorem Rr.vw {H G : Hp} (s : Same G H) : ∀ {r : R} {v : V} {x : PD}, r.view = some x → noD x = true → Rr w H G v r → Dp w.K H v x := by
  intro r v x e nd h
  cases r with
  | d y =>
    have e' : y = x := by simpa [R.view] using e
    subst e'
    exact Rp.dp _ _ nd (Rp.mono s _ _ h)
  | l b ys =>
    have e' : PyData.list ys = x := by simpa [R.view] using e
    subst e'
    obtain ⟨p, vs, q, _, h1, h2⟩ := h
    subst q
    exact .lst (SqL.of h1) (RpL.dp _ _ nd (RpL.mono s _ _ h2))
  | s ns =>
    have e' : PyData.list (ns.map .int) = x := by simpa [R.view] using e
    subst e'
    obtain ⟨p, q, h1⟩ := h
    subst q
    exact .lst (s.seq h1) (DpAll.ints ns)
  | _ => simp [R.view] at e
/-- a list just made -/
theorem PostO.mk {H G : Hp} {xs : List PD} {vs : List V} {Q : VK} (h : PostO w H G (.ok (.l true xs)) Q) (s : Same G H) (r : RpL G vs xs) : ∀ p, H p = none → Q (.ref p) (upd H p (.lst vs)) := fun p hp =>
  h (.ref p) _ G (Grow.own s hp) ⟨p, vs, rfl, s.free hp, upd_same, r⟩ fun _ q e => by cases e; exact hp
/-- a tuple just made -/
theorem PostO.mkT {H G : Hp} {xs : List PD} {vs : List V} {Q : VK} (h : PostO w H G (.ok (.d (.tuple xs))) Q) (s : Same G H) (r : RpL G vs xs) : ∀ p, H p = none → Q (.ref p) (upd H p (.tup vs)) := fun p hp =>
  h (.ref p) _ _ (Grow.lay s hp) (.tup upd_same (RpL.mono (Same.new (s.free hp)) _ _ r)) (Fr.no rfl)
def big : Nat := 100000
theorem big_le {n : Nat} (h : n ≤ big) : n ≤ sizeLine := Nat.le_trans h (by decide)
theorem big_lt {n : Nat} (h : n ≤ big) : n < sizeLine := Nat.lt_of_le_of_lt h (by decide)

/-! ### and, or, not; chains; one of two -/
section
variable {X : Cx}
def tAn (f g : Sl → M Bool) : Sl → M Bool := fun env => (f env).bind fun b => if b then g env else .ok false
def tOrr (f g : Sl → M Bool) : Sl → M Bool := fun env => (f env).bind fun b => if b then .ok true else g env
def tNo (f : Sl → M Bool) : Sl → M Bool := fun env => (f env).bind fun b => .ok (!b)
theorem PostT.grow {σ : L2.St} {H G H1 G1 : Hp} {m : M Bool} {Q : Bool → Hp → Prop} (g : Grow H G H1 G1) (h : PostT w W σ H G m Q) : PostT w W σ H1 G1 m Q := by
  cases m with
  | ok b => exact fun H2 G2 g2 => h H2 G2 (g.trans g2)
  | error e => exact PostX.grow g h
theorem PostE.grow {σ : L2.St} {H G H1 G1 : Hp} {m : M R} {Q : VK} (g : Grow H G H1 G1) (h : PostE w W σ H G m Q) : PostE w W σ H1 G1 m Q := by
  cases m with
  | ok r => exact fun v H2 G2 g2 a b => h v H2 G2 (g.trans g2) a (b.mono g.h)
  | error e => exact PostE.err.mpr (PostX.grow g (PostE.err.mp h))
theorem rdT_bind {f : Sl → M Bool} {k : Bool → M Bool} {k' : Bool → Hp → Prop} {σ : L2.St} {H : Hp} {Q : Bool → Hp → Prop} {H0 B : Hp} {env : Sl} {G : Hp} (ok : w.Ok) (g : Grow H0 B H G) (x : Sim w H0 env σ H G) (h : PostT w W σ H G ((f env).bind k) Q)
    (hk : ∀ b H1 G1, Grow H G H1 G1 → Grow H0 B H1 G1 → Sim w H0 env σ H1 G1 → PostT w W σ H1 G1 (k b) Q → k' b H1) : rdT w W f σ H k' := by
  refine ⟨H0, B, env, G, g, x, ?_⟩
  cases e : f env with
  | error er => rw [e] at h; exact h
  | ok b =>
    rw [e] at h
    exact fun H1 G1 g1 => hk b H1 G1 g1 (g.trans g1) (x.grow ok g1) (PostT.grow g1 h)
theorem rdT_bindE {f : Sl → M Bool} {k : Bool → M R} {k' : Bool → Hp → Prop} {σ : L2.St} {H : Hp} {Q : VK} {H0 B : Hp} {env : Sl} {G : Hp} (ok : w.Ok) (g : Grow H0 B H G) (x : Sim w H0 env σ H G) (h : PostE w W σ H G ((f env).bind k) Q)
    (hk : ∀ b H1 G1, Grow H G H1 G1 → Grow H0 B H1 G1 → Sim w H0 env σ H1 G1 → PostE w W σ H1 G1 (k b) Q → k' b H1) : rdT w W f σ H k' := by
  refine ⟨H0, B, env, G, g, x, ?_⟩
  cases e : f env with
  | error er => rw [e] at h; exact PostE.err.mp h
  | ok b =>
    rw [e] at h
    exact fun H1 G1 g1 => hk b H1 G1 g1 (g.trans g1) (x.grow ok g1) (PostE.grow g1 h)
variable {a b c : Expr} {rest : List Expr} {pos : Pos} {f f' : Sl → M Bool} {fa fb fc : Sl → M R}
theorem xw_and1 (h : PT X a (rdT w W f)) : PW X (.BoolOp .And [a] pos) (rdT w W f) := pw_and1 h
theorem xw_or1 (h : PT X a (rdT w W f)) : PW X (.BoolOp .Or [a] pos) (rdT w W f) := pw_or1 h
theorem xw_and (ok : w.Ok) (ha : PT X a (rdT w W f)) (hb : PW X (.BoolOp .And (b :: rest) pos) (rdT w W f')) : PW X (.BoolOp .And (a :: b :: rest) pos) (rdT w W (tAn f f')) := by
  refine PWi (pw_and ha hb) fun σ H Q h => ?_
  obtain ⟨H0, B, env, G, g, x, h⟩ := h
  refine rdT_bind ok g x h fun c H1 G1 g1 g01 x1 h1 => ?_
  cases c with
  | true => exact ⟨H0, B, env, G1, g01, x1, h1⟩
  | false => exact h1 H1 G1 (Grow.refl g1.s)
theorem xw_or (ok : w.Ok) (ha : PT X a (rdT w W f)) (hb : PW X (.BoolOp .Or (b :: rest) pos) (rdT w W f')) : PW X (.BoolOp .Or (a :: b :: rest) pos) (rdT w W (tOrr f f')) := by
  refine PWi (pw_or ha hb) fun σ H Q h => ?_
  obtain ⟨H0, B, env, G, g, x, h⟩ := h
  refine rdT_bind ok g x h fun c H1 G1 g1 g01 x1 h1 => ?_
  cases c with
  | false => exact ⟨H0, B, env, G1, g01, x1, h1⟩
  | true => exact h1 H1 G1 (Grow.refl g1.s)
theorem xt_w (h : PW X a (rdT w W f)) : PT X a (rdT w W f) := h.pt
theorem xt_not (ok : w.Ok) (ha : PT X a (rdT w W f)) : PT X (.UnaryOp .Not a pos) (rdT w W (tNo f)) := by
  refine PTi (pt_not ha) fun σ H Q h => ?_
  obtain ⟨H0, B, env, G, g, x, h⟩ := h
  exact rdT_bind ok g x h fun c H1 G1 g1 g01 x1 h1 => h1 H1 G1 (Grow.refl g1.s)
/-- as values, bools alone -/
def eAn (f g : Sl → M R) : Sl → M R := fun env => (f env).bind fun r => (bo r).bind fun b => if b then g env else .ok (.d (.bool false))
def eOr (f g : Sl → M R) : Sl → M R := fun env => (f env).bind fun r => (bo r).bind fun b => if b then .ok (.d (.bool true)) else g env
def eNo (f : Sl → M R) : Sl → M R := fun env => (f env).bind fun r => (bo r).bind fun b => .ok (.d (.bool !b))
theorem bo_ok {r : R} {v : V} {H G : Hp} {σ : L2.St} {k : Bool → M R} {Q : VK} (rr : Rr w H G v r) (h : PostE w W σ H G ((bo r).bind k) Q) : ∃ b, v = .bl b ∧ PostE w W σ H G (k b) Q := by
  cases r with
  | d y =>
    cases y with
    | bool b => cases rr; exact ⟨b, rfl, h⟩
    | _ => exact h.elim
  | _ => exact h.elim
theorem xe_one {op} (h : PE X a (rdE w W fa)) : PE X (.BoolOp op [a] pos) (rdE w W fa) := pe_one h
theorem xe_and (ok : w.Ok) (ha : PE X a (rdE w W fa)) (hb : PE X (.BoolOp .And (b :: rest) pos) (rdE w W fb)) : PE X (.BoolOp .And (a :: b :: rest) pos) (rdE w W (eAn fa fb)) := by
  refine PEi (pe_and ha hb) fun σ H Q h => ?_
  obtain ⟨H0, B, env, G, g, x, h⟩ := h
  refine rdE_bind ok g x h fun r v H1 G1 g1 rr _ g01 x1 h1 => ?_
  obtain ⟨c, rfl, h1⟩ := bo_ok rr h1
  refine ⟨c, rfl, ?_⟩
  cases c with
  | true => exact ⟨H0, B, env, G1, g01, x1, h1⟩
  | false => exact h1.done g1.s (.bl false) (Fr.no rfl)
theorem xe_or (ok : w.Ok) (ha : PE X a (rdE w W fa)) (hb : PE X (.BoolOp .Or (b :: rest) pos) (rdE w W fb)) : PE X (.BoolOp .Or (a :: b :: rest) pos) (rdE w W (eOr fa fb)) := by
  refine PEi (pe_or ha hb) fun σ H Q h => ?_
  obtain ⟨H0, B, env, G, g, x, h⟩ := h
  refine rdE_bind ok g x h fun r v H1 G1 g1 rr _ g01 x1 h1 => ?_
  obtain ⟨c, rfl, h1⟩ := bo_ok rr h1
  refine ⟨c, rfl, ?_⟩
  cases c with
  | false => exact ⟨H0, B, env, G1, g01, x1, h1⟩
  | true => exact h1.done g1.s (.bl true) (Fr.no rfl)
theorem xe_not (ok : w.Ok) (ha : PE X a (rdE w W fa)) : PE X (.UnaryOp .Not a pos) (rdE w W (eNo fa)) := by
  refine PEi (pe_not ha) fun σ H Q h => ?_
  obtain ⟨H0, B, env, G, g, x, h⟩ := h
  refine rdE_bind ok g x h fun r v H1 G1 g1 rr _ g01 x1 h1 => ?_
  obtain ⟨c, rfl, h1⟩ := bo_ok rr h1
  exact ⟨c, rfl, h1.done g1.s (.bl _) (Fr.no rfl)⟩
def eIf (t : Sl → M Bool) (f g : Sl → M R) : Sl → M R := fun env => (t env).bind fun b => if b then f env else g env
theorem xe_if (ok : w.Ok) (hc : PT X c (rdT w W f)) (ha : PE X a (rdE w W fa)) (hb : PE X b (rdE w W fb)) : PE X (.IfExp c a b pos) (rdE w W (eIf f fa fb)) := by
  refine PEi (pe_ifExp hc ha hb) fun σ H Q h => ?_
  obtain ⟨H0, B, env, G, g, x, h⟩ := h
  refine rdT_bindE ok g x h fun c H1 G1 g1 g01 x1 h1 => ?_
  cases c with
  | true => exact ⟨H0, B, env, G1, g01, x1, h1⟩
  | false => exact ⟨H0, B, env, G1, g01, x1, h1⟩
/-- a op1 b op2 c -/
def eCh (o o' : Op) (fa fb fc : Sl → M R) : Sl → M R := fun env => (fa env).bind fun x => (fb env).bind fun y => (o x y).bind fun r => (bo r).bind fun k => if k then (fc env).bind fun z => o' y z else .ok (.d (.bool false))
theorem rd_ch {r2 r2' : R2} {o o' : Op} (ok : w.Ok) (hs : OpS w r2 o) (ht : Tame o) (hs' : OpS w r2' o') (ht' : Tame o') (σ : L2.St) (H : Hp) (Q : VK) (h : rdE w W (eCh o o' fa fb fc) σ H Q) : tChain r2 r2' (rdE w W fa) (rdE w W fb) (rdE w W fc) σ H Q := by
  obtain ⟨H0, B, env, G, g, x, h⟩ := h
  refine rdE_bind ok g x h fun r1 v1 H1 G1 g1 rr1 _ g01 x1 h1 => ?_
  refine rdE_bind ok g01 x1 h1 fun r2 v2 H2 G2 g2 rr2 _ g02 x2 h2 => ?_
  refine hs H2 G2 v1 v2 r1 r2 _ g2.s (rr1.mono ok g2) rr2 ?_
  cases e : o r1 r2 with
  | error er =>
    rw [e] at h2
    cases er with
    | stuck => exact h2
    | exc z i => exact absurd e (ht _ _ _ _)
  | ok r3 =>
    rw [e] at h2
    intro v3 H3 G3 g3 rr3 _
    have h2 := PostE.grow g3 h2
    obtain ⟨k, rfl, h3⟩ := bo_ok rr3 h2
    refine ⟨k, rfl, ?_⟩
    cases k with
    | false => exact h3.done g3.s (.bl false) (Fr.no rfl)
    | true =>
      refine rdE_bind ok (g02.trans g3) (x2.grow ok g3) h3 fun r4 v4 H4 G4 g4 rr4 _ g04 x4 h4 => ?_
      exact hs' H4 G4 v2 v4 r2 r4 Q g4.s (rr2.mono ok (g3.trans g4)) rr4 (h4.o (ht' _ _))
theorem xe_chain {op op' : CmpOp} {r2 r2' : R2} {o o' : Op} (ok : w.Ok) (ho : OpR X (compareOp op) r2) (hs : OpS w r2 o) (ht : Tame o) (ho' : OpR X (compareOp op') r2') (hs' : OpS w r2' o') (ht' : Tame o') (ha : PE X a (rdE w W fa)) (hb : PE X b (rdE w W fb)) (hc : PE X c (rdE w W fc))
    (hm : lastMarks [op, op'] [b, c] = false := by with_unfolding_all rfl) : PE X (.Compare a [op, op'] [b, c] pos) (rdE w W (eCh o o' fa fb fc)) := PEi (pe_chain ho ho' ha hb hc hm) (rd_ch ok hs ht hs' ht')
theorem xt_chain {op op' : CmpOp} {r2 r2' : R2} {o o' : Op} (ok : w.Ok) (ho : OpR X (compareOp op) r2) (hs : OpS w r2 o) (ht : Tame o) (ho' : OpR X (compareOp op') r2') (hs' : OpS w r2' o') (ht' : Tame o') (ha : PE X a (rdE w W fa)) (hb : PE X b (rdE w W fb)) (hc : PE X c (rdE w W fc))
    (hm : lastMarks [op, op'] [b, c] = false := by with_unfolding_all rfl) : PT X (.Compare a [op, op'] [b, c] pos) (rdT w W (tV (eCh o o' fa fb fc))) := by
  refine PTi (pt_chain ho ho' ha hb hc hm) fun σ H Q h => ?_
  obtain ⟨H0, B, env, G, g, x, h⟩ := h
  refine rd_ch ok hs ht hs' ht' σ H _ ⟨H0, B, env, G, g, x, ?_⟩
  unfold tV at h
  cases e : eCh o o' fa fb fc env with
  | error er => rw [e] at h; exact PostE.err.mpr h
  | ok r =>
    rw [e] at h
    intro v H1 G1 g1 rr _
    cases r with
    | d y =>
      cases y with
      | bool b =>
        cases rr
        exact ⟨b, rfl, h H1 G1 g1⟩
      | _ => exact h.elim
    | _ => exact h.elim

/-! ### arguments -/
def aNil : Sl → M (List R) := fun _ => .ok []
def aCons (f : Sl → M R) (r : Sl → M (List R)) : Sl → M (List R) := fun env => (f env).bind fun x => (r env).bind fun xs => .ok (x :: xs)
variable {es : List Expr} {e : Expr} {fs : Sl → M (List R)} {x : Str} {p : Pos}
theorem xa_nil : PA X [] (rdA w W aNil) := PAi pa_nil fun σ H Q h => by
  obtain ⟨H0, B, env, G, g, x, h⟩ := h
  exact h [] H G (Grow.refl g.s) .nil trivial
theorem xa_cons (ok : w.Ok) (he : PE X e (rdE w W fa)) (hr : PA X es (rdA w W fs)) (hs : starEach (e :: es) X.env = (false, eval e X.env) :: starEach es X.env := by rfl) : PA X (e :: es) (rdA w W (aCons fa fs)) := by
  refine PAi (pa_cons he hr hs) fun σ H Q h => ?_
  obtain ⟨H0, B, env, G, g, x, h⟩ := h
  refine ⟨H0, B, env, G, g, x, ?_⟩
  unfold aCons at h
  cases e1 : fa env with
  | error er => rw [e1] at h; exact PostE.err.mpr h
  | ok r =>
    rw [e1] at h
    intro v H1 G1 g1 rr fr
    refine ⟨H0, B, env, G1, g.trans g1, x.grow ok g1, ?_⟩
    cases e2 : fs env with
    | error er =>
      have h : PostA w W σ H G ((fs env).bind fun xs => .ok (r :: xs)) Q := h
      rw [e2] at h
      exact PostX.grow g1 h
    | ok rs =>
      have h : PostA w W σ H G ((fs env).bind fun xs => .ok (r :: xs)) Q := h
      rw [e2] at h
      intro vs H2 G2 g2 rrs frs
      exact h (v :: vs) H2 G2 (g1.trans g2) (.cons (rr.mono ok g2) rrs) ⟨fr, frs.mono g1.h⟩
/-- arguments, then what follows -/
theorem rdA_bind {k : List R → M R} {k' : List V → Hp → Prop} {σ : L2.St} {H : Hp} {Q : VK} {H0 B : Hp} {env : Sl} {G : Hp} (ok : w.Ok) (g : Grow H0 B H G) (x : Sim w H0 env σ H G) (h : PostE w W σ H G ((fs env).bind k) Q)
    (hk : ∀ rs vs H1 G1, Grow H G H1 G1 → RrL w H1 G1 vs rs → FrL H vs rs → Grow H0 B H1 G1 → Sim w H0 env σ H1 G1 → PostE w W σ H G (k rs) Q → k' vs H1) : rdA w W fs σ H k' := by
  refine ⟨H0, B, env, G, g, x, ?_⟩
  cases e : fs env with
  | error er => rw [e] at h; exact PostE.err.mp h
  | ok rs =>
    rw [e] at h
    exact fun vs H1 G1 g1 rr fr => hk rs vs H1 G1 g1 rr fr (g.trans g1) (x.grow ok g1) h
/-- a built-in called -/
def eF (o : List R → M R) (fs : Sl → M (List R)) : Sl → M R := fun env => (fs env).bind o
def CallS (w : Wd) (r : List V → Hp → VK → Prop) (o : List R → M R) : Prop := ∀ (H G : Hp) (vs : List V) (rs : List R) (Q : VK), Same G H → RrL w H G vs rs → PostO w H G (o rs) Q → r vs H Q
def TameL (o : List R → M R) : Prop := ∀ a x i, o a ≠ .error (.exc x i)
theorem rd_F {r : List V → Hp → VK → Prop} {o : List R → M R} (ok : w.Ok) (hs : CallS w r o) (ht : TameL o) (σ : L2.St) (H : Hp) (Q : VK) (h : rdE w W (eF o fs) σ H Q) : tCB r (rdA w W fs) σ H Q := by
  obtain ⟨H0, B, env, G, g, x, h⟩ := h
  exact rdA_bind ok g x h fun rs vs H1 G1 g1 rr fr g01 x1 h1 => hs H1 G1 vs rs Q g1.s rr ((PostE.grow g1 h1).o (ht _))
theorem xe_callB {id : String} {r : List V → Hp → VK → Prop} {o : List R → M R} (ok : w.Ok) (hc : CallR X (.builtin id) r) (hs : CallS w r o) (ht : TameL o) (hg : Gl X x) (hm : X.mg x = none) (hv : bootBuiltins x = some (.builtin id)) (ha : PA X (e :: es) (rdA w W fs)) (hn : x ≠ "__name__" := by decide) (hdb : (x == ("__debug__" : Str)) = false := by decide)
    (he : starEach (e :: es) X.env = (false, eval e X.env) :: starEach es X.env := by rfl) (hpl : (backTo pos (starEach es X.env)).any (·.1) = false := by rfl) : PE X (.Call (.Name x p) (e :: es) [] pos) (rdE w W (eF o fs)) :=
  PEi (pe_callB hc hg hm hv ha hn hdb he hpl) (rd_F ok hs ht)
theorem xe_callTy {T : String} {r : List V → Hp → VK → Prop} {o : List R → M R} (ok : w.Ok) (hc : CallR X (.type T) r) (hs : CallS w r o) (ht : TameL o) (hg : Gl X x) (hm : X.mg x = none) (hv : bootBuiltins x = some (.type T)) (ha : PA X (e :: es) (rdA w W fs)) (hn : x ≠ "__name__" := by decide) (hdb : (x == ("__debug__" : Str)) = false := by decide)
    (he : starEach (e :: es) X.env = (false, eval e X.env) :: starEach es X.env := by rfl) (hpl : (backTo pos (starEach es X.env)).any (·.1) = false := by rfl) : PE X (.Call (.Name x p) (e :: es) [] pos) (rdE w W (eF o fs)) :=
  PEi (pe_callTy hc hg hm hv ha hn hdb he hpl) (rd_F ok hs ht)

/-! ### displays -/
/-- a thing put into another: data for good -/
def R.dat : R → Option PD
  | .d x => some x
  | .l true xs => some (.list xs)
  | _ => none
def datL : List R → Option (List PD)
  | [] => some []
  | r :: rs => (r.dat).bind fun x => (datL rs).bind fun xs => some (x :: xs)
/-- the new lists among some values are for good -/
theorem Rr.lay {Hb Gb H G : Hp} {r : R} {v : V} {x : PD} (g : Grow Hb Gb H G) (e : r.dat = some x) (rr : Rr w H G v r) (fr : Fr Hb v r) : ∃ G', Grow Hb Gb H G' ∧ Same G G' ∧ Rp G' v x ∧ ∀ b, G b = none → v ≠ .ref b → G' b = none := by
  cases r with
  | d y =>
    have e' : y = x := by simpa [R.dat] using e
    subst e'
    exact ⟨G, g, Same.refl G, rr, fun _ h _ => h⟩
  | l b xs =>
    cases b with
    | false => simp [R.dat] at e
    | true =>
      have e' : PyData.list xs = x := by simpa [R.dat] using e
      subst e'
      obtain ⟨p, vs, rfl, n, h1, h2⟩ := rr
      have hb := fr rfl p rfl
      refine ⟨_, g.keep hb h1 n, Same.new n, .lst upd_same (RpL.mono (Same.new n) _ _ h2), fun c h hc => ?_⟩
      rw [upd_ne (fun z => hc (by rw [z]))]
      exact h
  | _ => simp [R.dat] at e
end
end Vs
end
section
namespace Vs
open PySem PySem.Spec PyProof.Rows L2

variable {w : Wd} {W : WX}
/-! ### values laid for good, one after another -/
def PostD (w : Wd) (W : WX) (σ : L2.St) (H G : Hp) : M (List PD) → (List V → Hp → Prop) → Prop
  | .ok ds, Q => ∀ vs H' G', Grow H G H' G' → RpL G' vs ds → Q vs H'
  | .error e, _ => PostX w W σ H G e
def rdD (w : Wd) (W : WX) (f : Sl → M (List PD)) : TA := fun σ H Q => ∃ H0 B env G, Grow H0 B H G ∧ Sim w H0 env σ H G ∧ PostD w W σ H G (f env) Q
def dat : R → M PD := fun r => match r.dat with
  | some x => .ok x
  | none => .error .stuck
def dNil : Sl → M (List PD) := fun _ => .ok []
def dCons (f : Sl → M R) (r : Sl → M (List PD)) : Sl → M (List PD) := fun env => (f env).bind fun x => (dat x).bind fun y => (r env).bind fun xs => .ok (y :: xs)
section
variable {X : Cx} {a b e : Expr} {es : List Expr} {pos p : Pos} {fa fb : Sl → M R} {fs : Sl → M (List PD)} {x : Str}
theorem xd_nil : PA X [] (rdD w W dNil) := PAi pa_nil fun σ H Q h => by
  obtain ⟨H0, B, env, G, g, x, h⟩ := h
  exact h [] H G (Grow.refl g.s) .nil
theorem xd_cons (ok : w.Ok) (he : PE X e (rdE w W fa)) (hr : PA X es (rdD w W fs)) (hs : starEach (e :: es) X.env = (false, eval e X.env) :: starEach es X.env := by rfl) : PA X (e :: es) (rdD w W (dCons fa fs)) := by
  refine PAi (pa_cons he hr hs) fun σ H Q h => ?_
  obtain ⟨H0, B, env, G, g, x, h⟩ := h
  refine ⟨H0, B, env, G, g, x, ?_⟩
  unfold dCons at h
  cases e1 : fa env with
  | error er => rw [e1] at h; exact PostE.err.mpr h
  | ok r =>
    rw [e1] at h
    intro v H1 G1 g1 rr fr
    cases e2 : r.dat with
    | none =>
      have h : PostD w W σ H G ((dat r).bind fun y => (fs env).bind fun xs => .ok (y :: xs)) Q := h
      unfold dat at h
      rw [e2] at h
      exact h.elim
    | some y =>
      have h : PostD w W σ H G ((dat r).bind fun y => (fs env).bind fun xs => .ok (y :: xs)) Q := h
      unfold dat at h
      rw [e2] at h
      obtain ⟨G2, g2, s12, rp, _⟩ := rr.lay g1 e2 fr
      refine ⟨H0, B, env, G2, g.trans g2, x.grow ok g2, ?_⟩
      cases e3 : fs env with
      | error er =>
        have h : PostD w W σ H G ((fs env).bind fun xs => .ok (y :: xs)) Q := h
        rw [e3] at h
        exact PostX.grow g2 h
      | ok ds =>
        have h : PostD w W σ H G ((fs env).bind fun xs => .ok (y :: xs)) Q := h
        rw [e3] at h
        exact fun vs H3 G3 g3 rs => h (v :: vs) H3 G3 (g2.trans g3) (.cons (Rp.mono g3.g _ _ rp) rs)
theorem rdD_bind {k : List PD → M R} {k' : List V → Hp → Prop} {σ : L2.St} {H : Hp} {Q : VK} {H0 B : Hp} {env : Sl} {G : Hp} (ok : w.Ok) (g : Grow H0 B H G) (x : Sim w H0 env σ H G) (h : PostE w W σ H G ((fs env).bind k) Q)
    (hk : ∀ ds vs H1 G1, Grow H G H1 G1 → RpL G1 vs ds → Grow H0 B H1 G1 → Sim w H0 env σ H1 G1 → PostE w W σ H1 G1 (k ds) Q → k' vs H1) : rdD w W fs σ H k' := by
  refine ⟨H0, B, env, G, g, x, ?_⟩
  cases e : fs env with
  | error er => rw [e] at h; exact PostE.err.mp h
  | ok rs =>
    rw [e] at h
    exact fun vs H1 G1 g1 rr => hk rs vs H1 G1 g1 rr (g.trans g1) (x.grow ok g1) (PostE.grow g1 h)
def mkL (ds : List PD) : M R := if ds.length ≤ big then .ok (.l true ds) else .error .stuck
def mkT (ds : List PD) : M R := if ds.length ≤ big then .ok (.d (.tuple ds)) else .error .stuck
theorem mkL_tame (ds : List PD) : ∀ x i, mkL ds ≠ .error (.exc x i) := fun x i e => by
  unfold mkL at e; split at e <;> cases e
theorem mkT_tame (ds : List PD) : ∀ x i, mkT ds ≠ .error (.exc x i) := fun x i e => by
  unfold mkT at e; split at e <;> cases e
theorem PostO.mkL {H G : Hp} {xs : List PD} {vs : List V} {Q : VK} (h : PostO w H G (mkL xs) Q) (s : Same G H) (r : RpL G vs xs) : vs.length ≤ sizeLine ∧ ∀ p, H p = none → Q (.ref p) (upd H p (.lst vs)) := by
  unfold Vs.mkL at h
  split at h
  · rename_i z
    exact ⟨big_le (by rw [r.length]; exact z), h.mk s r⟩
  · exact h.elim
theorem PostO.mkT' {H G : Hp} {xs : List PD} {vs : List V} {Q : VK} (h : PostO w H G (Vs.mkT xs) Q) (s : Same G H) (r : RpL G vs xs) : vs.length ≤ sizeLine ∧ ∀ p, H p = none → Q (.ref p) (upd H p (.tup vs)) := by
  unfold Vs.mkT at h
  split at h
  · rename_i z
    exact ⟨big_le (by rw [r.length]; exact z), h.mkT s r⟩
  · exact h.elim
def eL (fs : Sl → M (List PD)) : Sl → M R := fun env => (fs env).bind mkL
def eT (fs : Sl → M (List PD)) : Sl → M R := fun env => (fs env).bind mkT
theorem xe_list (ok : w.Ok) (h : PA X es (rdD w W fs)) : PE X (.List es pos) (rdE w W (eL fs)) := by
  refine PEi (pe_lst h) fun σ H Q h => ?_
  obtain ⟨H0, B, env, G, g, x, h⟩ := h
  exact rdD_bind ok g x h fun ds vs H1 G1 g1 rs g01 x1 h1 => PostO.mkL (h1.o (mkL_tame ds)) g1.s rs
theorem xe_tup {k : Nat} (ok : w.Ok) (h : PA X es (rdD w W fs)) : PE X (.Tuple es k pos) (rdE w W (eT fs)) := by
  refine PEi (pe_tup h) fun σ H Q h => ?_
  obtain ⟨H0, B, env, G, g, x, h⟩ := h
  exact rdD_bind ok g x h fun ds vs H1 G1 g1 rs g01 x1 h1 => PostO.mkT' (h1.o (mkT_tame ds)) g1.s rs

/-! ### slices -/
def rdO (w : Wd) (W : WX) (f : Sl → M (Option Int)) : TO := fun σ H Q => ∃ H0 B env G, Grow H0 B H G ∧ Sim w H0 env σ H G ∧ (match f env with
  | .ok o => ∀ H' G', Grow H G H' G' → Q o H'
  | .error e => PostX w W σ H G e)
def oNone : Sl → M (Option Int) := fun _ => .ok none
def ti : R → M Int
  | .d (.int i) => .ok i
  | _ => .error .stuck
def oSome (f : Sl → M R) : Sl → M (Option Int) := fun env => (f env).bind fun r => (ti r).bind fun i => .ok (some i)
theorem xo_none : PO X none (rdO w W oNone) := ⟨fun pins s σ H Q I h => po_none.run pins s σ H Q I (by
  obtain ⟨H0, B, env, G, g, x, h⟩ := h
  exact h H G (Grow.refl g.s))⟩
theorem xo_some (ok : w.Ok) (h : PE X e (rdE w W fa)) : PO X (some e) (rdO w W (oSome fa)) := ⟨fun pins s σ H Q I h' => (po_some h).run pins s σ H Q I (by
  obtain ⟨H0, B, env, G, g, x, h'⟩ := h'
  refine ⟨H0, B, env, G, g, x, ?_⟩
  unfold oSome at h'
  cases e1 : fa env with
  | error er => rw [e1] at h'; exact PostE.err.mpr h'
  | ok r =>
    rw [e1] at h'
    intro v H1 G1 g1 rr fr
    cases r with
    | d y =>
      cases y with
      | int i => cases rr; exact ⟨i, rfl, h' H1 G1 g1⟩
      | _ => exact h'.elim
    | _ => exact h'.elim)⟩
def cutD {α : Type} (xs : List α) (lo hi : Option Int) : List α := (xs.drop (HT.sIx xs.length 0 lo)).take (HT.sIx xs.length xs.length hi - HT.sIx xs.length 0 lo)
def sl3 : R → Option Int → Option Int → M R := fun r lo hi => match r with
  | .d (.str z) => if z.length ≤ big then .ok (.d (.str (cutS z lo hi))) else .error .stuck
  | r => match r.sq? with
    | some xs => .ok (.l true (cutD xs lo hi))
    | none => .error .stuck
def eSl (f : Sl → M R) (l h : Sl → M (Option Int)) : Sl → M R := fun env => (f env).bind fun r => (l env).bind fun lo => (h env).bind fun hi => sl3 r lo hi
def rSl3 (K : PySem.W.Frag) : V → Option Int → Option Int → Hp → VK → Prop := fun x lo hi H Q => rSlS x lo hi H Q ∨ rSlL K x lo hi H Q
theorem sl_3 : SlR X (rSl3 X.K) := SlR.or sl_str sl_list
theorem cutD_V {G : Hp} {vs : List V} {xs : List PD} (r : RpL G vs xs) (lo hi : Option Int) : RpL G (cutV vs lo hi) (cutD xs lo hi) := by
  unfold cutV cutD
  rw [r.length]
  exact (r.drop _).take _
theorem sl3_tame (r : R) (lo hi : Option Int) : ∀ x i, sl3 r lo hi ≠ .error (.exc x i) := fun x i e => by
  unfold sl3 at e
  split at e
  · split at e <;> cases e
  · split at e <;> cases e
theorem sl3_ok {H G : Hp} {v : V} {r : R} {lo hi : Option Int} {Q : VK} (s : Same G H) (rr : Rr w H G v r) (h : PostO w H G (sl3 r lo hi) Q) : rSl3 w.K v lo hi H Q := by
  unfold sl3 at h
  split at h
  · rename_i z
    cases rr
    split at h
    · rename_i hz
      exact .inl ⟨_, rfl, big_le hz, h.done s (.str _) (Fr.no rfl)⟩
    · exact h.elim
  · split at h
    · rename_i xs e
      obtain ⟨p, vs, rfl, hs, hr⟩ := rr.sq s e
      exact .inr ⟨p, vs, rfl, hs, h.mk s (cutD_V hr lo hi)⟩
    · exact h.elim
theorem xe_slice {lo hi : Option Expr} {fl fh : Sl → M (Option Int)} {p2 : Pos} (ok : w.Ok) (hK : X.K = w.K) (he : PE X e (rdE w W fa)) (hl : PO X lo (rdO w W fl)) (hu : PO X hi (rdO w W fh)) : PE X (.Subscript e (.Slice lo hi none p2) pos) (rdE w W (eSl fa fl fh)) := by
  refine PEi (pe_slice sl_3 he hl hu) fun σ H Q h => ?_
  obtain ⟨H0, B, env, G, g, x, h⟩ := h
  refine rdE_bind ok g x h fun r v H1 G1 g1 rr _ g01 x1 h1 => ⟨H0, B, env, G1, g01, x1, ?_⟩
  cases e1 : fl env with
  | error er => rw [e1] at h1; exact PostE.err.mp h1
  | ok lo =>
    rw [e1] at h1
    refine fun H2 G2 g2 => ⟨H0, B, env, G2, g01.trans g2, x1.grow ok g2, ?_⟩
    cases e2 : fh env with
    | error er =>
      have h1 : PostE w W σ H1 G1 ((fh env).bind fun hi => sl3 r lo hi) Q := h1
      rw [e2] at h1
      exact (PostE.err.mp h1).grow g2
    | ok hi =>
      have h1 : PostE w W σ H1 G1 ((fh env).bind fun hi => sl3 r lo hi) Q := h1
      rw [e2] at h1
      intro H3 G3 g3
      have h3 : PostE w W σ H3 G3 (sl3 r lo hi) Q := PostE.grow (g2.trans g3) h1
      rw [hK]
      exact sl3_ok g3.s (rr.mono ok (g2.trans g3)) (h3.o (sl3_tame _ _ _))
/-- xs[::-1] -/
def rev1 : R → M R := fun r => match r.sq? with
  | some xs => .ok (.l true xs.reverse)
  | none => .error .stuck
def eRev (f : Sl → M R) : Sl → M R := fun env => (f env).bind rev1
theorem xe_rev {k : Nat} {p1 p2 p3 : Pos} (ok : w.Ok) (hK : X.K = w.K) (he : PE X e (rdE w W fa)) : PE X (.Subscript e (.Slice none none (some (.UnaryOp .USub (.Constant (.int 1) k p1) p2)) p3) pos) (rdE w W (eRev fa)) := by
  refine PEi (pe_revL he) fun σ H Q h => ?_
  obtain ⟨H0, B, env, G, g, x, h⟩ := h
  refine rdE_bind ok g x h fun r v H1 G1 g1 rr _ g01 x1 h1 => ?_
  unfold rev1 at h1
  split at h1
  · rename_i xs e
    obtain ⟨p, vs, rfl, hs, hr⟩ := rr.sq g1.s e
    have h2 : PostO w H1 G1 (.ok (.l true xs.reverse)) Q := h1
    rw [hK]
    exact ⟨p, vs, rfl, hs, h2.mk g1.s hr.reverse⟩
  · exact h1.elim

/-! ### items -/
def ix2 : Op := fun a b => match b with
  | .d (.int i) => (match a with
    | .d (.str z) => if z.length ≤ big then (match atI z.cps.toList i with
      | some c => .ok (.d (.str ⟨#[c]⟩))
      | none => .error .stuck) else .error .stuck
    | .d (.tuple xs) => (match atI xs i with
      | some x => .ok (.d x)
      | none => .error .stuck)
    | r => match r.sq? with
      | some xs => (match atI xs i with
        | some x => .ok (.d x)
        | none => .error .stuck)
      | none => .error .stuck)
  | _ => .error .stuck
theorem ix2_tame : Tame ix2 := fun a b x i e => by
  unfold ix2 at e
  split at e
  · split at e
    · split at e
      · split at e <;> cases e
      · cases e
    · split at e <;> cases e
    · split at e
      · split at e <;> cases e
      · cases e
  · cases e
theorem atI_V {G : Hp} {vs : List V} {xs : List PD} {i : Int} {x : PD} (r : RpL G vs xs) (h : atI xs i = some x) : ∃ v, atI vs i = some v ∧ Rp G v x := by
  unfold atI at h ⊢
  rw [r.length]
  cases e : ixN xs.length i with
  | none => rw [e] at h; cases h
  | some j => rw [e] at h; exact r.get h
theorem ix2_ok {K : PySem.W.Frag} (hK : K = w.K) : OpS w (rIx K) ix2 := by
  subst hK
  intro H G v1 v2 r1 r2 Q s rr1 rr2 h
  unfold ix2 at h
  split at h
  · cases rr2
    split at h
    · cases rr1
      split at h
      · rename_i hz
        split at h
        · rename_i hc
          exact .inr (.inr ⟨_, _, _, rfl, rfl, big_le hz, hc, h.done s (.str _) (Fr.no rfl)⟩)
        · exact h.elim
      · exact h.elim
    · cases rr1 with
      | tup t1 t2 =>
        split at h
        · rename_i x hx
          obtain ⟨v, hv, rv⟩ := atI_V t2 hx
          exact .inr (.inl ⟨_, _, _, v, rfl, rfl, SqT.of (s _ _ t1), hv, h.done s rv (Fr.no rfl)⟩)
        · exact h.elim
    · split at h
      · rename_i xs hxs
        split at h
        · rename_i x hx
          obtain ⟨p, vs, rfl, hs, hr⟩ := rr1.sq s hxs
          obtain ⟨v, hv, rv⟩ := atI_V hr hx
          exact .inl ⟨_, _, _, v, rfl, rfl, hs, hv, h.done s rv (Fr.no rfl)⟩
        · exact h.elim
      · exact h.elim
  · exact h.elim
theorem xe_ix (ok : w.Ok) (hK : X.K = w.K) (ha : PE X a (rdE w W fa)) (hb : PE X b (rdE w W fb)) (hs : PlainIx b := by exact fun _ _ => rfl) : PE X (.Subscript a b pos) (rdE w W (eOp ix2 fa fb)) :=
  PEi (pe_ix ix_seq ha hb hs) (rd_op ok (ix2_ok hK) ix2_tame)
end
end Vs
end
section
namespace Vs
open PySem PySem.Spec PyProof.Rows L2

variable {w : Wd} {W : WX}
/-! ### a def's promise -/
def PostF (w : Wd) (H B : Hp) : M R → VK → XK → Prop
  | .ok r, Q, _ => ∀ v H' G', Grow H B H' G' → Rr w H' G' v r → Fr H v r → Q v H'
  | .error e, _, E => PostX w (fun c d _ H' => E c d H') [] H B e
def spM (w : Wd) (n : Nat) (m : List R → M R) : Sp := fun vs H Q E => vs.length = n ∧ ∃ B rs, Same B H ∧ RrL w H B vs rs ∧ (∀ r ∈ rs, r.own = false) ∧ PostF w H B (m rs) Q E
structure Dfn (P : Program) (wd : World) (w : Wd) (base : Heap) (x : Str) (k n : Nat) (m : List R → M R) : Prop where
  ex : ∃ f fd ps, FnOk P wd w.K w.mg base (L2.CX P wd) k f fd ps (spM w n m) ∧ w.mg x = some (.ref f) ∧ PySem.W.keepIn w.K (.ref f) = true ∧ Binds w.K fd ps []
theorem Dfn.mono {P : Program} {wd : World} {base : Heap} {x : Str} {j k n : Nat} {m : List R → M R} (D : Dfn P wd w base x j n m) (h : j ≤ k) : Dfn P wd w base x k n m := by
  obtain ⟨f, fd, ps, F, a, b, c⟩ := D.ex
  exact ⟨f, fd, ps, F.mono h, a, b, c⟩
/-- an argument as a def takes it -/
def R.arg : R → Except Er R
  | .d x => .ok (.d x)
  | .l _ xs => .ok (.d (.list xs))
  | .s ns => .ok (.s ns)
  | .e x i => .ok (.e x i)
  | .f x => .ok (.f x)
  | .io x fs => .ok (.io x fs)
  | .q => .ok .q
  | _ => .error .stuck
def argL : List R → M (List R)
  | [] => .ok []
  | r :: rs => (r.arg).bind fun a => (argL rs).bind fun as => .ok (a :: as)
def R.alias (r : R) : Bool := r.own && !r.new
/-- what may come back where a slot's own thing was handed in -/
def immO : R → M R
  | .d x => if imm x then .ok (.d x) else .error .stuck
  | .l b xs => if immL xs then .ok (.l b xs) else .error .stuck
  | _ => .error .stuck
def eD (n : Nat) (m : List R → M R) (fs : Sl → M (List R)) : Sl → M R := fun env => (fs env).bind fun rs => (argL rs).bind fun as =>
  if rs.length = n then (if rs.any R.alias then (m as).bind immO else m as) else .error .stuck
def addTo (G H : Hp) (vs : List V) : Hp := fun a => if V.ref a ∈ vs then (match G a with
  | some o => some o
  | none => H a) else G a
def dropFrom (B G : Hp) (vs : List V) : Hp := fun a => if V.ref a ∈ vs ∧ (G a).isNone = true then none else B a
theorem addTo_g {G H : Hp} {vs : List V} : Same G (addTo G H vs) := fun a o e => by
  unfold addTo
  split
  · rw [e]
  · exact e
theorem addTo_h {G H : Hp} {vs : List V} (s : Same G H) : Same (addTo G H vs) H := fun a o e => by
  unfold addTo at e
  split at e
  · split at e
    · rename_i q; rw [s _ _ q]; exact e
    · exact e
  · exact s _ _ e
theorem addTo_in {G H : Hp} {vs : List V} {a : Addr} {o : HO} (h : V.ref a ∈ vs) (n : G a = none) (e : H a = some o) : addTo G H vs a = some o := by
  unfold addTo
  rw [if_pos h, n]
  exact e
theorem addTo_out {G H : Hp} {vs : List V} {a : Addr} (h : ¬ V.ref a ∈ vs) (n : G a = none) : addTo G H vs a = none := by
  unfold addTo
  rw [if_neg h]
  exact n
theorem arg_own {r a : R} (h : r.arg = .ok a) : a.own = false := by
  cases r <;> simp only [R.arg] at h <;> cases h <;> rfl
theorem argL_own : ∀ {rs as : List R}, argL rs = .ok as → ∀ a ∈ as, a.own = false
  | [], as, h, a, ha => by
    cases h
    cases ha
  | r :: rs, as, h, a, ha => by
    simp only [argL] at h
    cases e1 : r.arg with
    | error er => rw [e1] at h; cases h
    | ok x =>
      rw [e1] at h
      cases e2 : argL rs with
      | error er =>
        have h : (argL rs).bind (fun as => .ok (x :: as)) = .ok as := h
        rw [e2] at h
        cases h
      | ok xs =>
        have h : (argL rs).bind (fun as => .ok (x :: as)) = .ok as := h
        rw [e2] at h
        cases h
        rcases List.mem_cons.mp ha with rfl | ha
        · exact arg_own e1
        · exact argL_own e2 a ha
/-- the own ones among some values -/
def ownV : List V → List R → List V
  | v :: vs, r :: rs => if r.own then v :: ownV vs rs else ownV vs rs
  | _, _ => []
theorem Rr.argR {H G : Hp} (ok : w.Ok) (s : Same G H) {vs : List V} {r a : R} {v : V} (hv : r.own = true → v ∈ vs) (h : r.arg = .ok a) (rr : Rr w H G v r) : Rr w H (addTo G H vs) v a := by
  cases r with
  | d x => cases h; exact Rp.mono addTo_g x v rr
  | l b xs =>
    cases h
    obtain ⟨p, us, rfl, n, h1, h2⟩ := rr
    exact Rp.lst (addTo_in (hv rfl) n h1) (RpL.mono addTo_g _ _ h2)
  | s ns => cases h; obtain ⟨p, e, q⟩ := rr; exact ⟨p, e, addTo_g.seq q⟩
  | e x i => cases h; obtain ⟨p, e, q⟩ := rr; exact ⟨p, e, ok.exo _ _ _ _ _ addTo_g q⟩
  | f x => cases h; exact rr
  | q => cases h; obtain ⟨p, e, q⟩ := rr; exact ⟨p, e, addTo_g _ _ q⟩
  | io x fs => cases h; obtain ⟨p, C, dx, vf, e, m, q, z⟩ := rr; exact ⟨p, C, dx, vf, e, m, addTo_g _ _ q, z.mono addTo_g⟩
  | _ => cases h
theorem RrL.argR {H G : Hp} (ok : w.Ok) (s : Same G H) {vs : List V} : ∀ {us : List V} {rs as : List R}, (∀ u ∈ ownV us rs, u ∈ vs) → argL rs = .ok as → RrL w H G us rs → RrL w H (addTo G H vs) us as
  | [], [], as, _, h, _ => by cases h; exact .nil
  | u :: us, r :: rs, as, hm, h, .cons rr rrs => by
    simp only [argL] at h
    cases e1 : r.arg with
    | error er => rw [e1] at h; cases h
    | ok x =>
      rw [e1] at h
      cases e2 : argL rs with
      | error er =>
        have h : (argL rs).bind (fun as => .ok (x :: as)) = .ok as := h
        rw [e2] at h
        cases h
      | ok xs =>
        have h : (argL rs).bind (fun as => .ok (x :: as)) = .ok as := h
        rw [e2] at h
        cases h
        refine .cons (rr.argR ok s (fun ho => hm u ?_) e1) (RrL.argR ok s (fun z hz => hm z ?_) e2 rrs)
        · unfold ownV; rw [if_pos ho]; exact List.mem_cons_self
        · unfold ownV
          split
          · exact List.mem_cons_of_mem _ hz
          · exact hz
/-- where no slot's own thing was handed in, the own ones are new -/
theorem new_of {Hb : Hp} : ∀ {vs : List V} {rs : List R}, FrL Hb vs rs → rs.any R.alias = false → ∀ a, V.ref a ∈ ownV vs rs → Hb a = none
  | [], _, _, _, a, hm => by unfold ownV at hm; cases hm
  | _ :: _, [], _, _, a, hm => by unfold ownV at hm; cases hm
  | v :: vs, r :: rs, fr, al, a, hm => by
    simp only [List.any_cons, Bool.or_eq_false_iff] at al
    unfold ownV at hm
    split at hm
    · rename_i ho
      rcases List.mem_cons.mp hm with e | hm
      · have nw : r.new = true := by
          have := al.1
          unfold R.alias at this
          rw [ho] at this
          simpa using this
        exact fr.1 nw a e.symm
      · exact new_of fr.2 al.2 a hm
    · exact new_of fr.2 al.2 a hm
/-- an own thing is no tuple -/
theorem own_tup {H G : Hp} : ∀ {vs : List V} {rs : List R} {a : Addr} {xs : List V}, RrL w H G vs rs → V.ref a ∈ ownV vs rs → H a = some (.tup xs) → False
  | [], _, a, _, _, hm, _ => by unfold ownV at hm; cases hm
  | _ :: _, [], a, _, h, _, _ => by cases h
  | v :: vs, r :: rs, a, xs, .cons rr rrs, hm, e => by
    unfold ownV at hm
    split at hm
    · rename_i ho
      rcases List.mem_cons.mp hm with q | hm
      · cases r with
        | l b ys => obtain ⟨p, us, z, _, h1, _⟩ := rr; rw [← q] at z; cases z; rw [h1] at e; cases e
        | T b ys => obtain ⟨p, us, z, _, h1, _⟩ := rr; rw [← q] at z; cases z; rw [h1] at e; cases e
        | M b ys => obtain ⟨p, us, z, _, h1, _⟩ := rr; rw [← q] at z; cases z; rw [h1] at e; cases e
        | o op y fs => obtain ⟨p, C, dx, vf, z, _, _, _, h1, _⟩ := rr; rw [← q] at z; cases z; rw [h1] at e; cases e
        | lk b ys => obtain ⟨us, z, _, h1, _⟩ := rr; rw [← q] at z; cases z; rw [h1] at e; cases e
        | D ys => obtain ⟨p, us, z, _, h1, _⟩ := rr; rw [← q] at z; cases z; rw [h1] at e; cases e
        | _ => cases ho
      · exact own_tup rrs hm e
    · exact own_tup rrs hm e
theorem Grow.drop {Hb Gb H G H' B' : Hp} {vs : List V} (g : Grow Hb Gb H G) (b : Grow H (addTo G H vs) H' B') : Grow Hb Gb H' (dropFrom B' G vs) := by
  refine ⟨g.h.trans b.h, fun a o e => ?_, fun a o e => ?_, fun a o f n e => ?_⟩
  · have q := g.g a o e
    unfold dropFrom
    rw [if_neg (fun z => by rw [q] at z; exact absurd z.2 (by simp))]
    exact b.g a o (addTo_g a o q)
  · unfold dropFrom at e
    split at e
    · cases e
    · exact b.s a o e
  · have q := g.a a o f n e
    unfold dropFrom
    split
    · rfl
    · rename_i z
      have hn : ¬ V.ref a ∈ vs := fun hm => z ⟨hm, by rw [q]; rfl⟩
      exact b.a a o f (addTo_out hn q) (g.h a o e)
theorem Grow.add {Hb Gb H G H' B' : Hp} {vs : List V} (g : Grow Hb Gb H G) (b : Grow H (addTo G H vs) H' B') (hn : ∀ a, V.ref a ∈ vs → Hb a = none) : Grow Hb Gb H' B' := by
  refine ⟨g.h.trans b.h, (g.g.trans addTo_g).trans b.g, b.s, fun a o f n e => ?_⟩
  have hm : ¬ V.ref a ∈ vs := fun hm => by rw [hn a hm] at e; cases e
  exact b.a a o f (addTo_out hm (g.a a o f n e)) (g.h a o e)
theorem immO_ok {r r' : R} (h : immO r = .ok r') : r' = r ∧ ((∃ x, r = .d x ∧ imm x = true) ∨ (∃ b xs, r = .l b xs ∧ immL xs = true)) := by
  cases r with
  | d x =>
    have h : (if imm x = true then (.ok (.d x) : M R) else .error .stuck) = .ok r' := h
    by_cases q : imm x = true
    · rw [if_pos q] at h; cases h; exact ⟨rfl, .inl ⟨x, rfl, q⟩⟩
    · rw [if_neg q] at h; cases h
  | l b xs =>
    have h : (if immL xs = true then (.ok (.l b xs) : M R) else .error .stuck) = .ok r' := h
    by_cases q : immL xs = true
    · rw [if_pos q] at h; cases h; exact ⟨rfl, .inr ⟨b, xs, rfl, q⟩⟩
    · rw [if_neg q] at h; cases h
  | _ => cases h
theorem immO_tame (r : R) : ∀ x i, immO r ≠ .error (.exc x i) := fun z i h => by
  cases r with
  | d x =>
    have h : (if imm x = true then (.ok (.d x) : M R) else .error .stuck) = .error (.exc z i) := h
    by_cases q : imm x = true
    · rw [if_pos q] at h; cases h
    · rw [if_neg q] at h; cases h
  | l b xs =>
    have h : (if immL xs = true then (.ok (.l b xs) : M R) else .error .stuck) = .error (.exc z i) := h
    by_cases q : immL xs = true
    · rw [if_pos q] at h; cases h
    · rw [if_neg q] at h; cases h
  | _ => cases h
section
variable {X : Cx} {e : Expr} {es : List Expr} {pos p : Pos} {fs : Sl → M (List R)} {x : Str}
theorem rd_D {n : Nat} {m : List R → M R} (ok : w.Ok) (σ : L2.St) (H : Hp) (Q : VK) (h : rdE w W (eD n m fs) σ H Q) : rdA w W fs σ H fun vs H1 => spM w n m vs H1 Q (WE W σ) := by
  obtain ⟨H0, B0, env, G, g, x, h⟩ := h
  refine rdA_bind ok g x h fun rs vs H1 G1 g1 rr fr g01 x1 h => ?_
  cases ea : argL rs with
  | error er =>
    rw [ea] at h
    have : PostX w W σ H G er := PostE.err.mp h
    cases er with
    | stuck => exact this.elim
    | exc z i =>
      have aux : ∀ {rs : List R} , argL rs = .error (.exc z i) → False := fun {rs} => by
        induction rs with
        | nil => intro q; cases q
        | cons r rs ih =>
          intro q
          simp only [argL] at q
          cases e1 : r.arg with
          | error er => rw [e1] at q; cases r <;> simp only [R.arg] at e1 <;> cases e1 <;> cases q
          | ok y =>
            rw [e1] at q
            cases e2 : argL rs with
            | error er =>
              have q : (argL rs).bind (fun as => .ok (y :: as)) = .error (.exc z i) := q
              rw [e2] at q
              cases q
              exact ih e2
            | ok ys =>
              have q : (argL rs).bind (fun as => .ok (y :: as)) = .error (.exc z i) := q
              rw [e2] at q
              cases q
      exact (aux ea).elim
  | ok as =>
    rw [ea] at h
    have h : PostE w W σ H G (if rs.length = n then (if rs.any R.alias then (m as).bind immO else m as) else .error .stuck) Q := h
    split at h
    · rename_i hl
      refine ⟨rr.length.trans hl, addTo G1 H1 (ownV vs rs), as, addTo_h g1.s, RrL.argR ok g1.s (fun _ q => q) ea rr, argL_own ea, ?_⟩
      cases em : m as with
      | error er =>
        have hx : PostX w W σ H G er := by
          split at h
          · rw [em] at h; exact PostE.err.mp h
          · rw [em] at h; exact PostE.err.mp h
        cases er with
        | stuck => exact hx
        | exc z i =>
          cases i with
          | none => exact fun C H2 B2 mc b => hx C H2 _ mc (g1.drop b)
          | some j => exact fun C d H2 B2 mc b e => hx C d H2 _ mc (g1.drop b) e
      | ok r =>
        intro v H2 B2 b rv fv
        split at h
        · rw [em] at h
          have h9 : PostE w W σ H G (immO r) Q := h
          cases ei : immO r with
          | error er =>
            rw [ei] at h9
            cases er with
            | stuck => exact h9.elim
            | exc z i => exact absurd ei (immO_tame r z i)
          | ok r' =>
            rw [ei] at h9
            obtain ⟨e9, q⟩ := immO_ok ei
            rw [e9] at h9
            refine h9 v H2 _ (g1.drop b) ?_ (fv.mono g1.h)
            have tk : ∀ a xs, B2 a = some (.tup xs) → dropFrom B2 G1 (ownV vs rs) a = some (.tup xs) := fun a xs e => by
              unfold dropFrom
              split
              · rename_i z
                exfalso
                have nG : G1 a = none := by
                  cases q : G1 a with
                  | none => rfl
                  | some u => rw [q] at z; exact absurd z.2 (by simp)
                cases q : H1 a with
                | none =>
                  have : ∀ {us : List V} {ss : List R}, RrL w H1 G1 us ss → V.ref a ∈ ownV us ss → False := by
                    intro us ss hrr
                    induction hrr with
                    | nil => intro hm; unfold ownV at hm; cases hm
                    | cons r1 _ ih =>
                      intro hm
                      unfold ownV at hm
                      split at hm
                      · rename_i ho
                        rcases List.mem_cons.mp hm with e | hm
                        · obtain ⟨p, o, e2, _, e3⟩ := r1.place ho
                          rw [← e] at e2
                          cases e2
                          rw [q] at e3
                          cases e3
                        · exact ih hm
                      · exact ih hm
                  exact this rr z.1
                | some u =>
                  have e2 := b.s a _ e
                  rw [b.h a u q] at e2
                  cases e2
                  exact own_tup rr z.1 q
              · exact e
            rcases q with ⟨y, rfl, hi⟩ | ⟨b', ys, rfl, hi⟩
            · exact Rp.imm tk _ _ hi rv
            · obtain ⟨p, us, e1, n1, h1, h2⟩ := rv
              refine ⟨p, us, e1, ?_, h1, RpL.imm tk _ _ hi h2⟩
              unfold dropFrom
              split
              · rfl
              · exact n1
        · rename_i al
          rw [em] at h
          exact h v H2 B2 (g1.add b (new_of fr (by simpa using al))) rv (fv.mono g1.h)
    · exact h.elim
theorem xe_call {k n : Nat} {m : List R → M R} (ok : w.Ok) (hK : X.K = w.K) (hM : X.mg = w.mg) (D : Dfn X.prog X.w w X.base x k n m) (hr : Room k X.A) (tk : Takes X W) (hg : Gl X x) (ha : PA X (e :: es) (rdA w W fs)) (hdb : (x == ("__debug__" : Str)) = false := by decide)
    (he : starEach (e :: es) X.env = (false, eval e X.env) :: starEach es X.env := by rfl) (hpl : (backTo pos (starEach es X.env)).any (·.1) = false := by rfl) : PE X (.Call (.Name x p) (e :: es) [] pos) (rdE w W (eD n m fs)) := by
  obtain ⟨f, fd, ps, F, hm, hk, hb⟩ := D.ex
  rw [← hK, ← hM] at F
  rw [← hM] at hm
  rw [← hK] at hk hb
  exact PEi (pe_callS F hr hg hm hk hb (fun σ => passAt tk σ) ha hdb he hpl) (rd_D ok)
end
end Vs
end
section
namespace Vs
open PySem PySem.Spec PyProof.Rows L2

variable {w : Wd} {W : WX}
/-! ### slots stored, forgotten -/
theorem Sim.set {H0 : Hp} {env : Sl} {σ : L2.St} {H G : Hp} {i : Nat} {r : R} {v : V} (x : Sim w H0 env σ H G) (hi : i < env.length) (hh : r.held = r) (rr : Rr w H G v r) (h0 : ∀ a, foot H r v a → H0 a = none)
    (hn : ∀ (j : Nat) (r' : R) (v' : V) (a : Addr), j ≠ i → env[j]? = some (some r') → σ[j]? = some (some v') → foot H r v a → ¬ foot H r' v' a) : Sim w H0 (env.set i (some r)) (σ.set i (some v)) H G := by
  have hσ : i < σ.length := by rw [← x.len]; exact hi
  refine ⟨by simp [x.len], fun j r' e => ?_, fun j k r1 r2 u1 u2 a e1 e2 s1 s2 f1 f2 => ?_⟩
  · by_cases hj : j = i
    · subst hj
      rw [List.getElem?_set_self hi] at e
      cases e
      exact ⟨hh, v, List.getElem?_set_self hσ, rr, h0⟩
    · rw [List.getElem?_set_ne (Ne.symm hj)] at e
      obtain ⟨a, u, b, c, d⟩ := x.at_ j r' e
      exact ⟨a, u, by rw [List.getElem?_set_ne (Ne.symm hj)]; exact b, c, d⟩
  · by_cases hj : j = i
    · subst hj
      rw [List.getElem?_set_self hi] at e1
      rw [List.getElem?_set_self hσ] at s1
      cases e1; cases s1
      by_cases hk : k = j
      · exact hk.symm
      · rw [List.getElem?_set_ne (Ne.symm hk)] at e2 s2
        exact absurd f2 (hn k r2 u2 a hk e2 s2 f1)
    · rw [List.getElem?_set_ne (Ne.symm hj)] at e1 s1
      by_cases hk : k = i
      · subst hk
        rw [List.getElem?_set_self hi] at e2
        rw [List.getElem?_set_self hσ] at s2
        cases e2; cases s2
        exact absurd f1 (hn j r1 u1 a hj e1 s1 f2)
      · rw [List.getElem?_set_ne (Ne.symm hk)] at e2 s2
        exact x.inj j k r1 r2 u1 u2 a e1 e2 s1 s2 f1 f2
/-- a slot is forgotten -/
theorem Sim.forget {H0 : Hp} {env : Sl} {σ : L2.St} {H G : Hp} {i : Nat} {o : Option V} (x : Sim w H0 env σ H G) : Sim w H0 (env.set i none) (σ.set i o) H G := by
  have low : ∀ {j : Nat} {r : R}, (env.set i none)[j]? = some (some r) → j ≠ i ∧ env[j]? = some (some r) := fun {j r} e => by
    by_cases hj : j = i
    · subst hj
      by_cases hl : j < env.length
      · rw [List.getElem?_set_self hl] at e; cases e
      · rw [List.getElem?_eq_none (by simpa using hl)] at e; cases e
    · rw [List.getElem?_set_ne (Ne.symm hj)] at e
      exact ⟨hj, e⟩
  refine ⟨by simp [x.len], fun j r' e => ?_, fun j k r1 r2 u1 u2 a e1 e2 s1 s2 f1 f2 => ?_⟩
  · obtain ⟨hj, e⟩ := low e
    obtain ⟨a, u, b, c, d⟩ := x.at_ j r' e
    exact ⟨a, u, by rw [List.getElem?_set_ne (Ne.symm hj)]; exact b, c, d⟩
  · obtain ⟨hj, e1⟩ := low e1
    obtain ⟨hk, e2⟩ := low e2
    rw [List.getElem?_set_ne (Ne.symm hj)] at s1
    rw [List.getElem?_set_ne (Ne.symm hk)] at s2
    exact x.inj j k r1 r2 u1 u2 a e1 e2 s1 s2 f1 f2
def wipeS (env : Sl) : List Nat → Sl
  | [] => env
  | v :: vs => (wipeS env vs).set v none
theorem Sim.wipe {H0 : Hp} {env : Sl} {σ : L2.St} {H G : Hp} (x : Sim w H0 env σ H G) : ∀ vs : List Nat, Sim w H0 (wipeS env vs) (L2.wipe σ vs) H G
  | [] => x
  | v :: vs => (Sim.wipe x vs).forget

/-! ### targets -/
def PostG (w : Wd) (is : List Nat) (σ : L2.St) (H0 H G : Hp) : M Sl → (L2.St → Hp → Prop) → Prop
  | .ok env', Q => ∀ σ', Sim w H0 env' σ' H G → (∀ vs : List Nat, (∀ i ∈ is, i ∈ vs) → L2.wipe σ' vs = L2.wipe σ vs) → Q σ' H
  | .error _, _ => False
def rdG (w : Wd) (is : List Nat) (f : PD → Sl → M Sl) : TG := fun v σ H Q => ∃ H0 B env G x, Grow H0 B H G ∧ Sim w H0 env σ H G ∧ Rp G v x ∧ PostG w is σ H0 H G (f x env) Q
def rdGs (w : Wd) (is : List Nat) (f : List PD → Sl → M Sl) : TGs := fun vs σ H Q => ∃ H0 B env G xs, Grow H0 B H G ∧ Sim w H0 env σ H G ∧ RpL G vs xs ∧ PostG w is σ H0 H G (f xs env) Q
theorem wipe_set {σ : L2.St} {i : Nat} {o : Option V} : ∀ {vs : List Nat}, i ∈ vs → L2.wipe (σ.set i o) vs = L2.wipe σ vs
  | v :: vs, h => by
    show (L2.wipe (σ.set i o) vs).set v none = (L2.wipe σ vs).set v none
    by_cases hm : i ∈ vs
    · rw [wipe_set hm]
    · have e : i = v := by simpa [hm] using h
      subst e
      have aux : ∀ us : List Nat, i ∉ us → L2.wipe (σ.set i o) us = (L2.wipe σ us).set i o := by
        intro us
        induction us with
        | nil => intro _; rfl
        | cons u us ih =>
          intro hu
          simp only [List.mem_cons, not_or] at hu
          show (L2.wipe (σ.set i o) us).set u none = ((L2.wipe σ us).set u none).set i o
          rw [ih hu.2, List.set_comm _ _ hu.1]
      rw [aux vs hm, List.set_set]
section
variable {X : Cx} {pos : Pos}
def PGi {e : Expr} {t t' : TG} (h : PG X e t) (i : ∀ v σ H Q, t' v σ H Q → t v σ H Q) : PG X e t' := ⟨fun pins s σ H v u Q I r x => h.run pins s σ H v u Q I r (i v σ H Q x)⟩
def PGsi {e : List Expr} {t t' : TGs} (h : PGs X e t) (i : ∀ v σ H Q, t' v σ H Q → t v σ H Q) : PGs X e t' := ⟨fun pins s σ H v u Q I r x => h.run pins s σ H v u Q I r (i v σ H Q x)⟩
def gN (i : Nat) (x : PD) (env : Sl) : M Sl := if i < env.length then .ok (env.set i (some (.d x))) else .error .stuck
theorem xg_name {i : Nat} {x : Str} (hN : X.N.Nodup) (hi : X.N[i]? = some x) (hx : Loc X.env.scope x) (hf : X.fn x = true ∨ X.env.scope.names.lookup x = some .local := by first | exact .inl rfl | exact .inr rfl | assumption) : PG X (.Name x pos) (rdG w [i] (gN i)) := by
  refine PGi (pg_name hN hi hx hf) fun v σ H Q h => ?_
  obtain ⟨H0, B, env, G, y, g, x, r, h⟩ := h
  unfold gN at h
  split at h
  · rename_i hi
    exact h _ (x.set hi rfl r (fun _ f => f.elim) (fun _ _ _ _ _ _ _ f => f.elim)) fun vs hv => wipe_set (hv i (by simp))
  · exact h.elim
def gNil' (xs : List PD) (env : Sl) : M Sl := match xs with
  | [] => .ok env
  | _ => .error .stuck
def gCons' (f : PD → Sl → M Sl) (fs : List PD → Sl → M Sl) (xs : List PD) (env : Sl) : M Sl := match xs with
  | x :: r => (f x env).bind fun e1 => fs r e1
  | [] => .error .stuck
theorem xgs_nil : PGs X [] (rdGs w [] gNil') := PGsi pgs_nil fun v σ H Q h => by
  obtain ⟨H0, B, env, G, ys, g, x, r, h⟩ := h
  cases ys with
  | nil => cases r; exact ⟨rfl, h σ x fun _ _ => rfl⟩
  | cons _ _ => exact h.elim
theorem xgs_cons {e : Expr} {es : List Expr} {is js : List Nat} {f : PD → Sl → M Sl} {fs : List PD → Sl → M Sl} (h1 : PG X e (rdG w is f)) (h2 : PGs X es (rdGs w js fs))
    (hs : (assignEach (e :: es) X.env).map (·.2) = assign e X.env :: (assignEach es X.env).map (·.2) := by rfl) : PGs X (e :: es) (rdGs w (is ++ js) (gCons' f fs)) := by
  refine PGsi (pgs_cons h1 h2 hs) fun vs σ H Q h => ?_
  obtain ⟨H0, B, env, G, ys, g, x, r, h⟩ := h
  cases ys with
  | nil => exact h.elim
  | cons y ys =>
    cases r with
    | cons r1 r2 =>
      refine ⟨_, _, rfl, H0, B, env, G, y, g, x, r1, ?_⟩
      have h : PostG w (is ++ js) σ H0 H G ((f y env).bind fun e1 => fs ys e1) Q := h
      cases e1 : f y env with
      | error er => rw [e1] at h; exact h.elim
      | ok env1 =>
        rw [e1] at h
        intro σ1 x1 w1
        refine ⟨H0, B, env1, G, ys, g, x1, r2, ?_⟩
        have h : PostG w (is ++ js) σ H0 H G (fs ys env1) Q := h
        cases e2 : fs ys env1 with
        | error er => rw [e2] at h; exact h.elim
        | ok env2 =>
          rw [e2] at h
          exact fun σ2 x2 w2 => h σ2 x2 fun vs hv => (w2 vs fun i hi => hv i (List.mem_append_right _ hi)).trans (w1 vs fun i hi => hv i (List.mem_append_left _ hi))
def gT (fs : List PD → Sl → M Sl) (x : PD) (env : Sl) : M Sl := match x with
  | .tuple xs => fs xs env
  | _ => .error .stuck
theorem xg_tup {es : List Expr} {k : Nat} {is : List Nat} {fs : List PD → Sl → M Sl} {n : Nat} (hc : X.calm = true) (h : PGs X es (rdGs w is fs)) (hlen : ∀ xs env e, fs xs env = .ok e → xs.length = n)
    (hn : (assignEach es X.env).length = n := by rfl) (hst : (assignEach es X.env).findIdx? (·.1) = none := by rfl) : PG X (.Tuple es k pos) (rdG w is (gT fs)) := by
  refine PGi (pg_tup hc h hn hst) fun v σ H Q h => ?_
  obtain ⟨H0, B, env, G, y, g, x, r, h⟩ := h
  cases y with
  | tuple xs =>
    cases r with
    | tup r1 r2 =>
      have h : PostG w is σ H0 H G (fs xs env) Q := h
      cases e : fs xs env with
      | error er => rw [e] at h; exact h.elim
      | ok env' => exact ⟨_, _, rfl, SqT.of (g.s _ _ r1), by rw [r2.length]; exact hlen _ _ _ e, H0, B, env, G, xs, g, x, r2, by rw [e]; rw [e] at h; exact h⟩
  | _ => exact h.elim
theorem gl_nil : ∀ xs env e, gNil' xs env = .ok e → xs.length = 0 := fun xs env e h => by
  cases xs with
  | nil => rfl
  | cons _ _ => cases h
theorem gl_cons {f : PD → Sl → M Sl} {fs : List PD → Sl → M Sl} {n : Nat} (hl : ∀ xs env e, fs xs env = .ok e → xs.length = n) : ∀ xs env e, gCons' f fs xs env = .ok e → xs.length = n + 1 := fun xs env e h => by
  cases xs with
  | nil => cases h
  | cons x r =>
    have h : ((f x env).bind fun e1 => fs r e1) = .ok e := h
    cases e1 : f x env with
    | error er => rw [e1] at h; cases h
    | ok env1 =>
      rw [e1] at h
      have := hl r env1 e h
      simp [this]

/-! ### what is walked -/
structure Wk (w : Wd) (J : It) (G : Hp) (xs : List PD) : Prop where
  go : ∀ (i : Nat) H' G', Same G G' → Same G' H' → i < xs.length → J.go i H'
  stop : ∀ (i : Nat) H' G', Same G G' → Same G' H' → xs.length ≤ i → J.stop i H'
  yld : ∀ (i : Nat) H' G' v H'', Same G G' → Same G' H' → i < xs.length → J.yld i H' v H'' → ∃ G'' x, xs[i]? = some x ∧ Rp G'' v x ∧ Grow H' G' H'' G''
/-- what the outcome of a walked thing's reckoning wants -/
def PostI (w : Wd) (W : WX) (σ : L2.St) (H G : Hp) : M (List PD) → (It → Hp → Prop) → Prop
  | .ok xs, R => ∀ J H' G', Grow H G H' G' → Wk w J G' xs → R J H'
  | .error e, _ => PostX w W σ H G e
def rdI (w : Wd) (W : WX) (f : Sl → M (List PD)) : TI := fun σ H R => ∃ H0 B env G, Grow H0 B H G ∧ Sim w H0 env σ H G ∧ PostI w W σ H G (f env) R
def PIi {tg e : Expr} {t t' : TI} (h : PI X tg e t) (i : ∀ σ H R, t' σ H R → t σ H R) : PI X tg e t' := ⟨fun pins s σ H R I x => h.run pins s σ H R I (i σ H R x)⟩
theorem wk_list {G : Hp} {K : PySem.W.Frag} (hK : K = w.K) {a : Addr} {vs : List V} {xs : List PD} (h : SqL w.K G a vs) (r : RpL G vs xs) : Wk w (Itl K a) G xs := by
  subst hK
  refine ⟨fun i H' G' s1 s2 hi => ?_, fun i H' G' s1 s2 hi => ⟨vs, (s1.trans s2).seq h, by rw [r.length]; exact hi⟩, fun i H' G' v H'' s1 s2 hi y => ?_⟩
  · obtain ⟨v, hv, _⟩ := r.get (List.getElem?_eq_getElem hi)
    exact ⟨vs, v, (s1.trans s2).seq h, hv⟩
  · obtain ⟨rfl, y⟩ := y
    have hv := y vs ((s1.trans s2).seq h)
    obtain ⟨d, hd, rd⟩ := r.getV hv
    exact ⟨G', d, hd, Rp.mono s1 _ _ rd, Grow.refl s2⟩
/-- a value that is walked as a list: for good -/
def R.itm : R → Option (List PD)
  | .d (.list xs) => some xs
  | .s ns => some (ns.map .int)
  | .l true xs => some xs
  | _ => none
def itm : R → Except Er (List PD) := fun r => match r.itm with
  | some xs => .ok xs
  | none => .error .stuck
theorem Rr.itm {Hb Gb H G : Hp} {r : R} {v : V} {xs : List PD} (g : Grow Hb Gb H G) (e : r.itm = some xs) (rr : Rr w H G v r) (fr : Fr Hb v r) : ∃ p vs G', v = .ref p ∧ Grow Hb Gb H G' ∧ SqL w.K G' p vs ∧ RpL G' vs xs := by
  cases r with
  | d y =>
    cases y with
    | list ys =>
      have e' : ys = xs := by simpa [R.itm] using e
      subst e'
      cases rr with
      | lst h1 h2 => exact ⟨_, _, G, rfl, g, SqL.of h1, h2⟩
    | _ => simp [R.itm] at e
  | s ns =>
    have e' : ns.map PyData.int = xs := by simpa [R.itm] using e
    subst e'
    obtain ⟨p, q, h1⟩ := rr
    exact ⟨p, _, G, q, g, h1, RpL.ofInts ns⟩
  | l b ys =>
    cases b with
    | false => simp [R.itm] at e
    | true =>
      have e' : ys = xs := by simpa [R.itm] using e
      subst e'
      obtain ⟨p, vs, rfl, n, h1, h2⟩ := rr
      have hb := fr rfl p rfl
      exact ⟨p, vs, _, rfl, g.keep hb h1 n, SqL.of upd_same, RpL.mono (Same.new n) _ _ h2⟩
  | _ => simp [R.itm] at e
def iL (f : Sl → M R) : Sl → M (List PD) := fun env => (f env).bind itm
theorem xi_list {tg l : Expr} {fl : Sl → M R} (hK : X.K = w.K) (hl : PE X l (rdE w W fl)) : PI X tg l (rdI w W (iL fl)) := by
  refine PIi (pi_list hl) fun σ H R h => ?_
  obtain ⟨H0, B, env, G, g, x, h⟩ := h
  refine ⟨H0, B, env, G, g, x, ?_⟩
  unfold iL at h
  cases e : fl env with
  | error er => rw [e] at h; exact PostE.err.mpr h
  | ok r =>
    rw [e] at h
    intro v H1 G1 g1 rr fr
    have h : PostI w W σ H G (itm r) R := h
    unfold itm at h
    cases e2 : r.itm with
    | none => rw [e2] at h; exact h.elim
    | some xs =>
      rw [e2] at h
      obtain ⟨p, vs, G2, rfl, g2, hs, hr⟩ := rr.itm g1 e2 fr
      refine ⟨p, rfl, ⟨vs, ?_⟩, h _ H1 G2 g2 (wk_list hK hs hr)⟩
      rw [hK]
      exact g2.s.seq hs
/-- a tuple walked -/
def iT (f : Sl → M R) : Sl → M (List PD) := fun env => (f env).bind fun r => match r with
  | .d (.tuple xs) => .ok xs
  | _ => .error .stuck
theorem wk_tup {G : Hp} {K : PySem.W.Frag} (hK : K = w.K) {a : Addr} {vs : List V} {xs : List PD} (h : SqT w.K G a vs) (r : RpL G vs xs) : Wk w (Itt K a) G xs := by
  subst hK
  have m : ∀ {H' : Hp}, Same G H' → SqT w.K H' a vs := fun {H'} s => by
    rcases h with (h | ⟨o, h⟩) | h
    · exact .inl (.inl (s _ _ h))
    · exact .inl (.inr ⟨o, s _ _ h⟩)
    · exact .inr h
  refine ⟨fun i H' G' s1 s2 hi => ?_, fun i H' G' s1 s2 hi => ⟨vs, m (s1.trans s2), by rw [r.length]; exact hi⟩, fun i H' G' v H'' s1 s2 hi y => ?_⟩
  · obtain ⟨v, hv, _⟩ := r.get (List.getElem?_eq_getElem hi)
    exact ⟨vs, v, m (s1.trans s2), hv⟩
  · obtain ⟨rfl, y⟩ := y
    have hv := y vs (m (s1.trans s2))
    obtain ⟨d, hd, rd⟩ := r.getV hv
    exact ⟨G', d, hd, Rp.mono s1 _ _ rd, Grow.refl s2⟩
theorem xi_tup {tg l : Expr} {fl : Sl → M R} (hK : X.K = w.K) (hl : PE X l (rdE w W fl)) : PI X tg l (rdI w W (iT fl)) := by
  refine PIi (pi_tup hl) fun σ H R h => ?_
  obtain ⟨H0, B, env, G, g, x, h⟩ := h
  refine ⟨H0, B, env, G, g, x, ?_⟩
  unfold iT at h
  cases e : fl env with
  | error er => rw [e] at h; exact PostE.err.mpr h
  | ok r =>
    rw [e] at h
    intro v H1 G1 g1 rr fr
    cases r with
    | d y =>
      cases y with
      | tuple xs =>
        cases rr with
        | tup r1 r2 =>
          refine ⟨_, rfl, ⟨_, SqT.of (g1.s _ _ r1)⟩, h _ H1 G1 g1 (wk_tup hK (SqT.of r1) r2)⟩
      | _ => exact h.elim
    | _ => exact h.elim
/-- ranges -/
def rngD (lo : Int) (n : Nat) : List PD := (List.range n).map fun (k : Nat) => PyData.int (lo + (k : Int))
theorem wk_rng {G : Hp} {lo : Int} {n : Nat} : Wk w (Itr lo n) G (rngD lo n) := by
  have hl : (rngD lo n).length = n := by simp [rngD]
  refine ⟨fun i H' G' s1 s2 hi => by rw [hl] at hi; exact hi, fun i H' G' s1 s2 hi => by rw [hl] at hi; exact hi, fun i H' G' v H'' s1 s2 hi y => ?_⟩
  obtain ⟨rfl, rfl⟩ := y
  rw [hl] at hi
  exact ⟨G', .int (lo + (i : Int)), by simp [rngD, hi], .int _, Grow.refl s2⟩
def lim : Int := 1000000000000
/-- told so that the kernel's own reckoning stops at once where `i` is not a literal -/
def LimP (i : Int) : Prop := i.natAbs ≤ 1000000000000
instance (i : Int) : Decidable (LimP i) := Nat.decLe _ _
theorem limP_iff {i : Int} : LimP i ↔ -lim ≤ i ∧ i ≤ lim := by unfold LimP lim; omega
theorem lim_62 {i : Int} (h : -lim ≤ i ∧ i ≤ lim) : -(2 ^ 62) ≤ i ∧ i < 2 ^ 62 := by
  unfold lim at h
  omega
def intL : List R → M (List Int)
  | [] => .ok []
  | r :: rs => (ti r).bind fun i => (intL rs).bind fun is => .ok (i :: is)
theorem intL_ok {H G : Hp} : ∀ {vs : List V} {rs : List R} {is : List Int}, intL rs = .ok is → RrL w H G vs rs → vs = is.map V.int
  | _, [], is, h, rr => by cases h; cases rr; rfl
  | _, r :: rs, is, h, .cons r1 r2 => by
    simp only [intL] at h
    cases e1 : ti r with
    | error er => rw [e1] at h; cases h
    | ok i =>
      rw [e1] at h
      have h : (intL rs).bind (fun is => .ok (i :: is)) = .ok is := h
      cases e2 : intL rs with
      | error er => rw [e2] at h; cases h
      | ok js =>
        rw [e2] at h
        cases h
        rw [intL_ok e2 r2]
        cases r with
        | d y =>
          cases y with
          | int k => cases r1; cases e1; rfl
          | _ => cases e1
        | _ => cases e1
theorem ti_tame (r : R) : ∀ x i, ti r ≠ .error (.exc x i) := fun x i h => by
  unfold ti at h
  split at h <;> cases h
theorem intL_tame : ∀ (rs : List R) x i, intL rs ≠ .error (.exc x i)
  | [], x, i, h => by cases h
  | r :: rs, x, i, h => by
    simp only [intL] at h
    cases e1 : ti r with
    | error er => rw [e1] at h; cases h; exact ti_tame r x i e1
    | ok k =>
      rw [e1] at h
      have h : (intL rs).bind (fun is => .ok (k :: is)) = .error (.exc x i) := h
      cases e2 : intL rs with
      | error er => rw [e2] at h; cases h; exact intL_tame rs x i e2
      | ok js => rw [e2] at h; cases h
def rg1 : List Int → M (List PD)
  | [j] => if LimP j then .ok (rngD 0 j.toNat) else .error .stuck
  | _ => .error .stuck
def rg2 : List Int → M (List PD)
  | [i, j] => if LimP i ∧ LimP j then .ok (rngD i (j - i).toNat) else .error .stuck
  | _ => .error .stuck
def iR1 (fs : Sl → M (List R)) : Sl → M (List PD) := fun env => (fs env).bind fun rs => (intL rs).bind rg1
def iR2 (fs : Sl → M (List R)) : Sl → M (List PD) := fun env => (fs env).bind fun rs => (intL rs).bind rg2
theorem rdI_ints {fs : Sl → M (List R)} {k : List Int → M (List PD)} {σ : L2.St} {H : Hp} {R' : It → Hp → Prop} (h : rdI w W (fun env => (fs env).bind fun rs => (intL rs).bind k) σ H R') {k' : List V → Hp → Prop}
    (hk : ∀ is H1 G1, PostI w W σ H1 G1 (k is) R' → Same G1 H1 → k' (is.map V.int) H1) : rdA w W fs σ H k' := by
  obtain ⟨H0, B, env, G, g, x, h⟩ := h
  have h : PostI w W σ H G ((fs env).bind fun rs => (intL rs).bind k) R' := h
  refine ⟨H0, B, env, G, g, x, ?_⟩
  cases e : fs env with
  | error er => rw [e] at h; exact h
  | ok rs =>
    rw [e] at h
    intro vs H1 G1 g1 rr fr
    have h : PostI w W σ H G ((intL rs).bind k) R' := h
    cases e2 : intL rs with
    | error er =>
      rw [e2] at h
      cases er with
      | stuck => exact h.elim
      | exc z i => exact absurd e2 (intL_tame rs z i)
    | ok is =>
      rw [e2] at h
      rw [intL_ok e2 rr]
      refine hk is H1 G1 ?_ g1.s
      have h : PostI w W σ H G (k is) R' := h
      cases e3 : k is with
      | error er => rw [e3] at h; exact PostX.grow g1 h
      | ok xs => rw [e3] at h; exact fun J H2 G2 g2 wk => h J H2 G2 (g1.trans g2) wk
theorem xi_range1 {tg a : Expr} {fs : Sl → M (List R)} {p pos : Pos} (hg : Gl X "range") (hm : X.mg "range" = none) (ha : PA X [a] (rdA w W fs)) (hs : starEach [a] X.env = [(false, eval a X.env)] := by rfl) : PI X tg (.Call (.Name "range" p) [a] [] pos) (rdI w W (iR1 fs)) := by
  refine PIi (pi_range1 hg hm ha hs) fun σ H R h => ?_
  refine rdI_ints h fun is H1 G1 h s => ?_
  unfold rg1 at h
  split at h
  · rename_i j
    split at h
    · rename_i hj
      have hj := limP_iff.mp hj
      exact ⟨j, rfl, (lim_62 hj).1, (lim_62 hj).2, h _ H1 G1 (Grow.refl s) wk_rng⟩
    · exact h.elim
  · exact h.elim
theorem xi_range2 {tg a b : Expr} {fs : Sl → M (List R)} {p pos : Pos} (hg : Gl X "range") (hm : X.mg "range" = none) (ha : PA X [a, b] (rdA w W fs)) (hs : starEach [a, b] X.env = [(false, eval a X.env), (false, eval b X.env)] := by rfl) (hs2 : starEach [b] X.env = [(false, eval b X.env)] := by rfl) :
    PI X tg (.Call (.Name "range" p) [a, b] [] pos) (rdI w W (iR2 fs)) := by
  refine PIi (pi_range2 hg hm ha hs hs2) fun σ H R h => ?_
  refine rdI_ints h fun is H1 G1 h s => ?_
  unfold rg2 at h
  split at h
  · rename_i i j
    split at h
    · rename_i hj
      have hj := And.intro (limP_iff.mp hj.1) (limP_iff.mp hj.2)
      exact ⟨i, j, rfl, ⟨(lim_62 hj.1).1, (lim_62 hj.1).2, (lim_62 hj.2).1, (lim_62 hj.2).2⟩, h _ H1 G1 (Grow.refl s) wk_rng⟩
    · exact h.elim
  · exact h.elim
end
end Vs
end
section
namespace Vs
open PySem PySem.Spec PyProof.Rows L2

variable {w : Wd} {W : WX}
section
variable {X : Cx} {pos : Pos}
/-- enumerate(list) -/
def enD (xs : List PD) : List PD := (xs.zipIdx).map fun p => PyData.tuple [.int (p.2 : Int), p.1]
theorem wk_enum {G : Hp} {K : PySem.W.Frag} (hK : K = w.K) {a : Addr} {vs : List V} {xs : List PD} (h : SqL w.K G a vs) (r : RpL G vs xs) : Wk w (Ite K a) G (enD xs) := by
  subst hK
  have hl : (enD xs).length = xs.length := by simp [enD]
  refine ⟨fun i H' G' s1 s2 hi => ?_, fun i H' G' s1 s2 hi => ⟨vs, (s1.trans s2).seq h, by rw [r.length, ← hl]; exact hi⟩, fun i H' G' v H'' s1 s2 hi y => ?_⟩
  · rw [hl] at hi
    obtain ⟨v, hv, _⟩ := r.get (List.getElem?_eq_getElem hi)
    exact ⟨vs, v, (s1.trans s2).seq h, hv⟩
  · obtain ⟨T, x, rfl, hT, rfl, y⟩ := y
    have hv := y vs ((s1.trans s2).seq h)
    obtain ⟨d, hd, rd⟩ := r.getV hv
    refine ⟨_, .tuple [.int (i : Int), d], ?_, .tup upd_same (.cons (.int _) (.cons (Rp.mono (s1.trans (Same.new (s2.free hT))) _ _ rd) .nil)), Grow.lay s2 hT⟩
    unfold enD
    rw [List.getElem?_map, List.getElem?_zipIdx, hd]
    simp
def en1 : List R → M (List PD)
  | [r] => (itm r).bind fun xs => .ok (enD xs)
  | _ => .error .stuck
def iE (fs : Sl → M (List R)) : Sl → M (List PD) := fun env => (fs env).bind en1
theorem xi_enum {e : Expr} {fs : Sl → M (List R)} {p pos tpos : Pos} {elts : List Expr} {kk : Nat} (hK : X.K = w.K) (hg : Gl X "enumerate") (hm : X.mg "enumerate" = none) (ha : PA X [e] (rdA w W fs)) (hs : starEach [e] X.env = [(false, eval e X.env)] := by rfl) :
    PI X (.Tuple elts kk tpos) (.Call (.Name "enumerate" p) [e] [] pos) (rdI w W (iE fs)) := by
  refine PIi (pi_enum hg hm ha hs) fun σ H R' h => ?_
  obtain ⟨H0, B, env, G, g, x, h⟩ := h
  refine ⟨H0, B, env, G, g, x, ?_⟩
  unfold iE at h
  cases e1 : fs env with
  | error er => rw [e1] at h; exact h
  | ok rs =>
    rw [e1] at h
    intro vs H1 G1 g1 rr fr
    have h : PostI w W σ H G (en1 rs) R' := h
    cases rs with
    | nil => exact h.elim
    | cons r rs =>
      cases rs with
      | cons _ _ => exact h.elim
      | nil =>
        cases rr with
        | cons r1 rr2 =>
        cases rr2
        have h : PostI w W σ H G ((itm r).bind fun xs => .ok (enD xs)) R' := h
        unfold itm at h
        cases e2 : r.itm with
        | none => rw [e2] at h; exact h.elim
        | some xs =>
          rw [e2] at h
          obtain ⟨p, us, G2, rfl, g2, hq, hr⟩ := r1.itm g1 e2 fr.1
          refine ⟨p, us, rfl, ?_, h _ H1 G2 g2 (wk_enum hK hq hr)⟩
          rw [hK]
          exact g2.s.seq hq
end
end Vs
end
section
namespace Vs
open PySem PySem.Spec PyProof.Rows L2

variable {w : Wd} {W : WX}
section
variable {X : Cx} {pos : Pos}
/-! ### list comprehensions -/
/-- within a comprehension nothing is raised -/
abbrev W0 : WX := fun _ _ _ _ => False
def quiet {α : Type} : M α → M α
  | .ok a => .ok a
  | .error _ => .error .stuck
def lcGo (fG : PD → Sl → M Sl) (ft : Sl → M Bool) (fe : Sl → M R) (env : Sl) : List PD → M (List PD)
  | [] => .ok []
  | x :: xs => (fG x env).bind fun e1 => (ft e1).bind fun b => if b then (fe e1).bind fun r => (dat r).bind fun d => (lcGo fG ft fe env xs).bind fun ds => .ok (d :: ds) else lcGo fG ft fe env xs
def eLc (fi : Sl → M (List PD)) (own : List Nat) (fG : PD → Sl → M Sl) (ft : Sl → M Bool) (fe : Sl → M R) : Sl → M R := fun env => (fi env).bind fun xs => (quiet (lcGo fG ft fe (wipeS env own) xs)).bind mkL
theorem rd_lc {fi : Sl → M (List PD)} {own is : List Nat} {fG : PD → Sl → M Sl} {ft : Sl → M Bool} {fe : Sl → M R} (ok : w.Ok) (hw : ∀ i ∈ is, i ∈ own) (σ : L2.St) (H : Hp) (Q : VK) (h : rdE w W (eLc fi own fG ft fe) σ H Q) :
    tLc (rdI w W fi) (rdG w is fG) (rdT w W0 ft) (rdE w W0 fe) own σ H Q := by
  obtain ⟨H0, B, env, G, g, x, h⟩ := h
  refine ⟨H0, B, env, G, g, x, ?_⟩
  unfold eLc at h
  cases e : fi env with
  | error er => rw [e] at h; exact PostE.err.mp h
  | ok xs =>
    rw [e] at h
    intro J H1 G1 g1 wk D hD
    have h : PostE w W σ H G ((quiet (lcGo fG ft fe (wipeS env own) xs)).bind mkL) Q := h
    cases e2 : lcGo fG ft fe (wipeS env own) xs with
    | error er => rw [e2] at h; exact h.elim
    | ok total =>
      rw [e2] at h
      have h : PostE w W σ H G (mkL total) Q := h
      have hz : total.length ≤ big := by
        unfold mkL at h
        split at h
        · assumption
        · exact h.elim
      have h : PostE w W σ H G (.ok (.l true total)) Q := by
        unfold mkL at h
        rw [if_pos hz] at h
        exact h
      refine ⟨fun i m H' => m = xs.length - i ∧ i ≤ xs.length ∧ ∃ G' acc ads rest, Grow H1 G1 H' G' ∧ H' D = some (.lst acc) ∧ G' D = none ∧ RpL G' acc ads ∧ lcGo fG ft fe (wipeS env own) (xs.drop i) = .ok rest ∧ ads ++ rest = total,
        ⟨xs.length, by simp, Nat.zero_le _, G1, [], [], total, Grow.own g1.s hD, upd_same, g1.s.free hD, .nil, by rw [List.drop_zero]; exact e2, rfl⟩, ?_⟩
      rintro i m H' ⟨rfl, hi, G', acc, ads, rest, gr, hacc, nD, ra, el, et⟩
      by_cases hlt : i < xs.length
      · refine .inr ⟨wk.go i H' G' gr.g gr.s hlt, fun H2 => i + 1 ≤ xs.length ∧ ∃ G' acc ads rest, Grow H1 G1 H2 G' ∧ H2 D = some (.lst acc) ∧ G' D = none ∧ RpL G' acc ads ∧ lcGo fG ft fe (wipeS env own) (xs.drop (i + 1)) = .ok rest ∧ ads ++ rest = total,
          fun H2 q => ⟨xs.length - (i + 1), by omega, rfl, q.1, q.2⟩, fun v H2 y => ?_⟩
        obtain ⟨G2, xi, hxi, rxi, g2⟩ := wk.yld i H' G' v H2 gr.g gr.s hlt y
        have hdrop : xs.drop i = xi :: xs.drop (i + 1) := by
          rw [List.drop_eq_getElem_cons hlt]
          congr 1
          rw [List.getElem?_eq_getElem hlt] at hxi
          exact Option.some.inj hxi
        rw [hdrop] at el
        unfold lcGo at el
        have gA : Grow H1 G1 H2 G2 := gr.trans g2
        have g02 : Grow H0 B H2 G2 := (g.trans g1).trans gA
        have x2 : Sim w H0 (wipeS env own) (L2.wipe σ own) H2 G2 := ((x.grow ok g1).grow ok gA).wipe own
        refine ⟨H0, B, wipeS env own, G2, xi, g02, x2, rxi, ?_⟩
        cases e3 : fG xi (wipeS env own) with
        | error er => rw [e3] at el; cases el
        | ok env1 =>
          rw [e3] at el
          have el : ((ft env1).bind fun b => if b = true then (fe env1).bind fun r => (dat r).bind fun d => (lcGo fG ft fe (wipeS env own) (xs.drop (i + 1))).bind fun ds => .ok (d :: ds) else lcGo fG ft fe (wipeS env own) (xs.drop (i + 1))) = .ok rest := el
          refine fun σ2 x3 wq => ⟨(wq own hw).trans ?_, ⟨H0, B, env1, G2, g02, x3, ?_⟩⟩
          · have aux : ∀ us vs : List Nat, (∀ u ∈ us, u ∈ vs) → L2.wipe (L2.wipe σ us) vs = L2.wipe σ vs := by
              intro us
              induction us with
              | nil => intro vs _; rfl
              | cons u us ih =>
                intro vs hv
                show L2.wipe ((L2.wipe σ us).set u none) vs = _
                rw [wipe_set (hv u List.mem_cons_self)]
                exact ih vs fun z hz => hv z (List.mem_cons_of_mem _ hz)
            exact aux own own fun _ h => h
          · cases e4 : ft env1 with
            | error er => rw [e4] at el; cases el
            | ok b =>
              rw [e4] at el
              intro H3 G3 g3
              have gB : Grow H1 G1 H3 G3 := gA.trans g3
              have hD3 : H3 D = some (.lst acc) := g3.h _ _ (g2.h _ _ hacc)
              have nD2 : G2 D = none := g2.a D _ rfl nD hacc
              have nD3 : G3 D = none := g3.a D _ rfl nD2 (g2.h _ _ hacc)
              cases b with
              | false =>
                have el : lcGo fG ft fe (wipeS env own) (xs.drop (i + 1)) = .ok rest := el
                show i + 1 ≤ xs.length ∧ _
                exact ⟨hlt, G3, acc, ads, rest, gB, hD3, nD3, RpL.mono (g2.g.trans g3.g) _ _ ra, el, et⟩
              | true =>
                have el : ((fe env1).bind fun r => (dat r).bind fun d => (lcGo fG ft fe (wipeS env own) (xs.drop (i + 1))).bind fun ds => .ok (d :: ds)) = .ok rest := el
                show rdE w W0 fe σ2 H3 _
                refine ⟨H0, B, env1, G3, g02.trans g3, x3.grow ok g3, ?_⟩
                cases e5 : fe env1 with
                | error er => rw [e5] at el; cases el
                | ok r =>
                  rw [e5] at el
                  have el : ((dat r).bind fun d => (lcGo fG ft fe (wipeS env own) (xs.drop (i + 1))).bind fun ds => .ok (d :: ds)) = .ok rest := el
                  intro u H4 G4 g4 rr fr
                  unfold dat at el
                  cases e6 : r.dat with
                  | none => rw [e6] at el; cases el
                  | some d =>
                    rw [e6] at el
                    have el : ((lcGo fG ft fe (wipeS env own) (xs.drop (i + 1))).bind fun ds => .ok (d :: ds)) = .ok rest := el
                    obtain ⟨G5, g5, _, rd, _⟩ := rr.lay g4 e6 fr
                    cases e7 : lcGo fG ft fe (wipeS env own) (xs.drop (i + 1)) with
                    | error er => rw [e7] at el; cases el
                    | ok rest' =>
                      rw [e7] at el
                      cases el
                      have nD5 : G5 D = none := g5.a D _ rfl nD3 hD3
                      have hD4 : H4 D = some (.lst acc) := g5.h _ _ hD3
                      have gC := gB.trans g5
                      refine ⟨acc, hD4, ?_, hlt, G5, acc ++ [u], ads ++ [d], rest', ⟨fun a o q => ?_, gC.g, fun a o q => ?_, fun a o f n q => gC.a a o f n q⟩, upd_same, nD5, RpL.append (RpL.mono ((g2.g.trans g3.g).trans g5.g) _ _ ra) (RpL.one rd), rfl, by rw [← et]; simp⟩
                      · have : acc.length = ads.length := ra.length
                        have hl := congrArg List.length et
                        simp at hl
                        exact big_lt (by omega)
                      · rw [upd_ne (ne_of_none q hD)]; exact gC.h a o q
                      · rw [upd_ne (ne_of_none q nD5)]; exact gC.s a o q
      · have hi' : i = xs.length := by omega
        refine .inl ⟨wk.stop i H' G' gr.g gr.s (by omega), ?_⟩
        rw [hi', List.drop_length] at el
        unfold lcGo at el
        cases el
        rw [List.append_nil] at et
        rw [et] at ra
        exact h (.ref D) H' G' (g1.trans gr) ⟨D, acc, rfl, nD, hacc, ra⟩ fun _ q e => by cases e; exact g1.h.free hD
def tTrue : Sl → M Bool := fun _ => .ok true
theorem xts_nil : PTs X [] (rdT w W tTrue) := ⟨fun pins s σ H Q I h => pts_nil.run pins s σ H Q I (by
  obtain ⟨H0, B, env, G, g, x, h⟩ := h
  exact h H G (Grow.refl g.s))⟩
theorem xts_one {c : Expr} {f : Sl → M Bool} (h : PT X c (rdT w W f)) : PTs X [c] (rdT w W f) := pts_one h
theorem xe_lc {elt tg iter : Expr} {ifs : List Expr} {scope : Scope} {own : List (Str × Nat)} {pos : Pos} {fi : Sl → M (List PD)} {is : List Nat} {fG : PD → Sl → M Sl} {ft : Sl → M Bool} {fe : Sl → M R} (ok : w.Ok) (hc : X.calm = true) (hN : X.N.Nodup)
    (hw : ∀ i ∈ is, i ∈ own.map (·.2)) (hi : PI X tg iter (rdI w W fi)) (bok : BlkOk X.N X.env.scope scope own)
    (hg : ∀ (s : Shared) (H : Hp) (C : Addr) (cl : List (Str × Addr)) (fp : List Addr), PG (X.blk s H scope (compEnvC scope cl C X.env) fp) tg (rdG w is fG)) (ht : ∀ (s : Shared) (H : Hp) (C : Addr) (cl : List (Str × Addr)) (fp : List Addr), PTs (X.blk s H scope (compEnvC scope cl C X.env) fp) ifs (rdT w W0 ft))
    (he : ∀ (s : Shared) (H : Hp) (C : Addr) (cl : List (Str × Addr)) (fp : List Addr), PE (X.blk s H scope (compEnvC scope cl C X.env) fp) elt (rdE w W0 fe)) (hs : ∀ x, foldedSetIterable iter X.env x = pure x := by intro _; rfl) :
    PE X (.ListComp elt [⟨tg, iter, ifs, 0⟩] scope pos) (rdE w W (eLc fi (own.map (·.2)) fG ft fe)) := PEi (pe_lc hc hN hi bok hg ht he hs) (rd_lc ok hw)
end
end Vs
end
section
namespace Vs
open PySem PySem.Spec PyProof.Rows L2

variable {w : Wd} {W : WX}
/-! ### statements -/
inductive Oc where
  | nx (env : Sl)
  | ret (r : R)
  | bk (env : Sl)
  | ct (env : Sl)
  /-- handed back, the slots' things told -/
  | rs (r : R) (env : Sl)
def PostS (w : Wd) (W : WX) (H0 B G : Hp) : M Oc → Ends → Prop
  | .ok (.nx env), D => ∀ σ' H' G', Grow H0 B H' G' → Same G G' → Sim w H0 env σ' H' G' → D.nx σ' H'
  | .ok (.ret r), D => ∀ v H' G', Grow H0 B H' G' → Rr w H' G' v r → Fr H0 v r → D.rt v H'
  | .ok (.bk env), D => ∀ σ' H' G', Grow H0 B H' G' → Same G G' → Sim w H0 env σ' H' G' → D.bk σ' H'
  | .ok (.ct env), D => ∀ σ' H' G', Grow H0 B H' G' → Same G G' → Sim w H0 env σ' H' G' → D.ct σ' H'
  | .ok (.rs r env), D => ∀ σ' v H' G', Grow H0 B H' G' → Same G G' → Sim w H0 env σ' H' G' → Rr w H' G' v r → Fr H0 v r → D.rt v H'
  | .error e, _ => ∀ σ', PostX w W σ' H0 B e
def rdS (w : Wd) (W : WX) (g : Sl → M Oc) : TS := fun D σ H => ∃ H0 B env G, Grow H0 B H G ∧ Sim w H0 env σ H G ∧ PostS w W H0 B G (g env) D
theorem PostS.sub {H0 B G G1 : Hp} {m : M Oc} {D : Ends} (s : Same G G1) (h : PostS w W H0 B G m D) : PostS w W H0 B G1 m D := by
  cases m with
  | error e => exact h
  | ok o =>
    cases o with
    | nx env => exact fun σ' H' G' g s' x => h σ' H' G' g (s.trans s') x
    | ret r => exact h
    | bk env => exact fun σ' H' G' g s' x => h σ' H' G' g (s.trans s') x
    | ct env => exact fun σ' H' G' g s' x => h σ' H' G' g (s.trans s') x
    | rs r env => exact fun σ' v H' G' g s' x => h σ' v H' G' g (s.trans s') x
theorem PostX.up {H0 B H G : Hp} {e : Er} {σ : L2.St} (g : Grow H0 B H G) (h : ∀ σ', PostX w W σ' H0 B e) : PostX w W σ H G e := PostX.grow g (h σ)
/-- a statement that first reckons an expression -/
theorem rdS_E {fe : Sl → M R} {k : R → Sl → M Oc} {D : Ends} {σ : L2.St} {H : Hp} {k' : V → Hp → Prop} (ok : w.Ok) (h : rdS w W (fun env => (fe env).bind fun r => k r env) D σ H)
    (hk : ∀ H0 B env G r v H1 G1, Grow H0 B H G → Sim w H0 env σ H G → Grow H G H1 G1 → Sim w H0 env σ H1 G1 → Rr w H1 G1 v r → Fr H v r → PostS w W H0 B G1 (k r env) D → k' v H1) : rdE w W fe σ H k' := by
  obtain ⟨H0, B, env, G, g, x, h⟩ := h
  refine ⟨H0, B, env, G, g, x, ?_⟩
  cases e : fe env with
  | error er =>
    have h : PostS w W H0 B G ((fe env).bind fun r => k r env) D := h
    rw [e] at h
    exact PostE.err.mpr (PostX.up g h)
  | ok r =>
    have h : PostS w W H0 B G ((fe env).bind fun r => k r env) D := h
    rw [e] at h
    exact fun v H1 G1 g1 rr fr => hk H0 B env G r v H1 G1 g x g1 (x.grow ok g1) rr fr (h.sub g1.g)
theorem rdS_T {ft : Sl → M Bool} {k : Bool → Sl → M Oc} {D : Ends} {σ : L2.St} {H : Hp} {k' : Bool → Hp → Prop} (ok : w.Ok) (h : rdS w W (fun env => (ft env).bind fun b => k b env) D σ H)
    (hk : ∀ H0 B env b H1 G1, Grow H0 B H1 G1 → Sim w H0 env σ H1 G1 → PostS w W H0 B G1 (k b env) D → k' b H1) : rdT w W ft σ H k' := by
  obtain ⟨H0, B, env, G, g, x, h⟩ := h
  refine ⟨H0, B, env, G, g, x, ?_⟩
  cases e : ft env with
  | error er =>
    have h : PostS w W H0 B G ((ft env).bind fun b => k b env) D := h
    rw [e] at h
    exact PostX.up g h
  | ok b =>
    have h : PostS w W H0 B G ((ft env).bind fun b => k b env) D := h
    rw [e] at h
    exact fun H1 G1 g1 => hk H0 B env b H1 G1 (g.trans g1) (x.grow ok g1) (h.sub g1.g)
section
variable {X : Cx} {pos : Pos} {st : Stmt} {rest : List Stmt} {e : Expr} {g g1 g2 : Sl → M Oc} {fe : Sl → M R} {ft : Sl → M Bool}
def sNext : Sl → M Oc := fun env => .ok (.nx env)
def sSeq (g1 g2 : Sl → M Oc) : Sl → M Oc := fun env => (g1 env).bind fun o => match o with
  | .nx e => g2 e
  | o => .ok o
theorem xss_nil : PSs X [] (rdS w W sNext) := PSsi pss_nil fun D σ H h => by
  obtain ⟨H0, B, env, G, g, x, h⟩ := h
  exact h σ H G g (Same.refl G) x
theorem xss_cons (h1 : PS X st (rdS w W g1)) (h2 : PSs X rest (rdS w W g2)) : PSs X (st :: rest) (rdS w W (sSeq g1 g2)) := by
  refine PSsi (pss_cons h1 h2) fun D σ H h => ?_
  obtain ⟨H0, B, env, G, g, x, h⟩ := h
  refine ⟨H0, B, env, G, g, x, ?_⟩
  unfold sSeq at h
  cases e1 : g1 env with
  | error er => rw [e1] at h; exact h
  | ok o =>
    rw [e1] at h
    cases o with
    | nx env' => exact fun σ' H' G' gg s x' => ⟨H0, B, env', G', gg, x', PostS.sub s h⟩
    | ret r => exact h
    | bk env' => exact h
    | ct env' => exact h
    | rs r env' => exact h
theorem xss_one (h1 : PS X st (rdS w W g1)) : PSs X [st] (rdS w W g1) := pss_one h1
def sIf (c : Sl → M Bool) (a b : Sl → M Oc) : Sl → M Oc := fun env => (c env).bind fun t => if t then a env else b env
theorem xs_if {c : Expr} {a b : List Stmt} (ok : w.Ok) (hc : PT X c (rdT w W ft)) (ha : PSs X a (rdS w W g1)) (hb : PSs X b (rdS w W g2)) : PS X (.If c a b pos) (rdS w W (sIf ft g1 g2)) := by
  refine PSi (ps_if hc ha hb) fun D σ H h => ?_
  refine rdS_T (k := fun t env => if t then g1 env else g2 env) ok h fun H0 B env b H1 G1 g x h => ?_
  cases b with
  | true => exact ⟨H0, B, env, G1, g, x, h⟩
  | false => exact ⟨H0, B, env, G1, g, x, h⟩
/-- a slot stored -/
def setS (i : Nat) (r : R) (env : Sl) : M Sl := if i < env.length ∧ r.alias = false then .ok (env.set i (some r.held)) else .error .stuck
def nxS : M Sl → M Oc := fun m => m.bind fun env => .ok (.nx env)
def sSet (i : Nat) (f : Sl → M R) : Sl → M Oc := fun env => (f env).bind fun r => nxS (setS i r env)
theorem held_held (r : R) : r.held.held = r.held := by cases r <;> rfl
theorem held_own (r : R) : r.held.own = r.own := by cases r <;> rfl
theorem Sim.store {H0 B : Hp} {env env' : Sl} {σ : L2.St} {Hb H G : Hp} {i : Nat} {r : R} {v : V} {Gb : Hp} (ok : w.Ok) (g0 : Grow H0 B Hb Gb) (xb : Sim w H0 env σ Hb Gb) (g1 : Grow Hb Gb H G) (rr : Rr w H G v r) (fr : Fr Hb v r) (e : setS i r env = .ok env') : Sim w H0 env' (σ.set i (some v)) H G := by
  unfold setS at e
  split at e
  · rename_i hi
    cases e
    have nw : r.own = true → r.new = true := fun ho => by
      have := hi.2
      unfold R.alias at this
      rw [ho] at this
      simpa using this
    have at' : ∀ {a : Addr}, foot H r.held v a → Hb a = none := fun {a} f => by
      rw [foot_held] at f
      exact fr (nw (foot_own f)) a (foot_new (nw (foot_own f)) f)
    refine (xb.grow ok g1).set hi.1 (held_held r) rr.held (fun a f => g0.h.free (at' f)) fun j r' v' a hj e1 s1 f1 f2 => ?_
    obtain ⟨_, u, hu, ru, _⟩ := xb.at_ j r' e1
    rw [hu] at s1
    cases s1
    obtain ⟨_, o, hp, _⟩ := foot_has ru (foot_same (fun p o _ h => g1.h p o h) ru f2)
    rw [at' f1] at hp
    cases hp
  · cases e
theorem setS_tame {i : Nat} {r : R} {env : Sl} : ∀ er, setS i r env = .error er → er = .stuck := fun er h => by
  unfold setS at h
  split at h <;> cases h
  rfl
theorem rd_set {i : Nat} (ok : w.Ok) {D : Ends} {σ : L2.St} {H : Hp} (h : rdS w W (sSet i fe) D σ H) : rdE w W fe σ H fun x H1 => D.nx (σ.set i (some x)) H1 := by
  refine rdS_E (k := fun r env => nxS (setS i r env)) ok h fun H0 B env G r v H1 G1 g x0 g1 x rr fr h => ?_
  cases e : setS i r env with
  | error er =>
    rw [e, setS_tame er e] at h
    exact (h []).elim
  | ok env' =>
    rw [e] at h
    exact h _ H1 G1 (g.trans g1) (Same.refl G1) (Sim.store ok g x0 g1 rr fr e)
theorem xs_set {i : Nat} {x : Str} {pos' : Pos} (ok : w.Ok) (hN : X.N.Nodup) (hi : X.N[i]? = some x) (hx : Loc X.env.scope x) (he : PE X e (rdE w W fe)) (hs : swapsWith e (some (.Name x pos')) pos.line X.env = pure false := by rfl) (hf : X.fn x = true ∨ X.env.scope.names.lookup x = some .local := by first | exact .inl rfl | exact .inr rfl | assumption) :
    PS X (.Assign [.Name x pos'] e pos) (rdS w W (sSet i fe)) := PSi (ps_set hN hi hx he hs hf) fun D σ H h => rd_set ok h
theorem xs_setLc {i : Nat} {y : Str} {py : Pos} {elt tg iter : Expr} {ifs : List Expr} {scope : Scope} {own : List (Str × Nat)} {spos : Pos} {fi : Sl → M (List PD)} {is : List Nat} {fG : PD → Sl → M Sl} {ft : Sl → M Bool} {fe : Sl → M R} (ok : w.Ok) (hc : X.calm = true) (hN : X.N.Nodup) (hy : X.N[i]? = some y) (hyl : X.env.scope.names.lookup y = some .local)
    (hsw : swapsWith (.ListComp elt [⟨tg, iter, ifs, 0⟩] scope pos) (some (.Name y py)) spos.line X.env = pure true) (hw : ∀ i ∈ is, i ∈ own.map (·.2)) (hi : PI X tg iter (rdI w W fi)) (bok : BlkOk X.N X.env.scope scope own)
    (hg : ∀ (s : Shared) (H : Hp) (C : Addr) (cl : List (Str × Addr)) (fp : List Addr), PG (X.blk s H scope (compEnvC scope cl C X.env) fp) tg (rdG w is fG)) (ht : ∀ (s : Shared) (H : Hp) (C : Addr) (cl : List (Str × Addr)) (fp : List Addr), PTs (X.blk s H scope (compEnvC scope cl C X.env) fp) ifs (rdT w W0 ft))
    (he : ∀ (s : Shared) (H : Hp) (C : Addr) (cl : List (Str × Addr)) (fp : List Addr), PE (X.blk s H scope (compEnvC scope cl C X.env) fp) elt (rdE w W0 fe)) (hs : ∀ x, foldedSetIterable iter X.env x = pure x := by intro _; rfl) :
    PS X (.Assign [.Name y py] (.ListComp elt [⟨tg, iter, ifs, 0⟩] scope pos) spos) (rdS w W (sSet i (eLc fi (own.map (·.2)) fG ft fe))) := by
  refine PSi (ps_setLc hc hN hy hyl hsw hi bok hg ht he hs) fun D σ H h => ?_
  exact rd_lc ok hw σ H _ (rd_set ok h)
/-- an expression for its own sake -/
def sDrop (f : Sl → M R) : Sl → M Oc := fun env => (f env).bind fun _ => .ok (.nx env)
theorem xs_expr (ok : w.Ok) (he : PE X e (rdE w W fe)) (hs : swapsWith e none pos.line X.env = pure false := by rfl) : PS X (.Expr e pos) (rdS w W (sDrop fe)) := by
  refine PSi (ps_expr he hs) fun D σ H h => ?_
  exact rdS_E (k := fun _ env => .ok (.nx env)) ok h fun H0 B env G r v H1 G1 g x0 g1 x rr fr h => h σ H1 G1 (g.trans g1) (Same.refl G1) x
theorem xs_pass : PS X (.Pass pos) (rdS w W sNext) := PSi ps_pass fun D σ H h => by
  obtain ⟨H0, B, env, G, g, x, h⟩ := h
  exact h σ H G g (Same.refl G) x
/-! ### what a def hands back -/
def PostR (w : Wd) (W : WX) (H0 B : Hp) : M R → VK → Prop
  | .ok r, Q => ∀ v H' G', Grow H0 B H' G' → Rr w H' G' v r → Fr H0 v r → Q v H'
  | .error e, _ => ∀ σ', PostX w W σ' H0 B e
def rdR (w : Wd) (W : WX) (f : Sl → M R) : TE := fun σ H Q => ∃ H0 B env G, Grow H0 B H G ∧ Sim w H0 env σ H G ∧ PostR w W H0 B (f env) Q
def rVar (i : Nat) : Sl → M R := fun env => match env[i]? with
  | some (some r) => .ok r.back
  | _ => .error .stuck
theorem back_own (r : R) : r.back.own = r.own := by cases r <;> rfl
theorem new_own {r : R} (h : r.new = true) : r.own = true := by cases r <;> first | rfl | cases h
theorem xr_var (i : Nat) {x : Str} (hN : X.N[i]? = some x := by rfl) (hv : Vis X.env.scope x := by first | exact Or.inl rfl | exact Or.inr (Or.inl rfl) | exact Or.inr (Or.inr rfl)) (hd : (x == ("__debug__" : Str)) = false := by decide)
    (hcd : (x == ("__classdict__" : Str)) = false := by decide) : PE X (.Name x pos) (rdR w W (rVar i)) := by
  refine PEi (pe_var hN hv hd hcd) fun σ H Q h => ?_
  obtain ⟨H0, B, env, G, g, x, h⟩ := h
  unfold rVar at h
  split at h
  · rename_i r e
    obtain ⟨hh, v, hv, rr, hq⟩ := x.at_ i r e
    exact ⟨v, hv, h v H G g rr.back fun hn p e => hq p (by rw [e]; exact foot_self (by rw [← back_own]; exact new_own hn))⟩
  · exact (h []).elim
def rE (f : Sl → M R) : Sl → M R := fun env => (f env).bind fun r => if r.alias then .error .stuck else .ok r
theorem xr_e (ok : w.Ok) (he : PE X e (rdE w W fe)) : PE X e (rdR w W (rE fe)) := by
  refine PEi he fun σ H Q h => ?_
  obtain ⟨H0, B, env, G, g, x, h⟩ := h
  refine ⟨H0, B, env, G, g, x, ?_⟩
  unfold rE at h
  cases e : fe env with
  | error er => rw [e] at h; exact PostE.err.mpr (PostX.up g h)
  | ok r =>
    rw [e] at h
    intro v H1 G1 g1 rr fr
    have h : PostR w W H0 B (if r.alias then .error .stuck else .ok r) Q := h
    split at h
    · exact (h []).elim
    · exact h v H1 G1 (g.trans g1) rr (fr.mono g.h)
def rIf (t : Sl → M Bool) (f g : Sl → M R) : Sl → M R := fun env => (t env).bind fun b => if b then f env else g env
theorem xr_if {a b c : Expr} {fa fb : Sl → M R} (ok : w.Ok) (hc : PT X c (rdT w W ft)) (ha : PE X a (rdR w W fa)) (hb : PE X b (rdR w W fb)) : PE X (.IfExp c a b pos) (rdR w W (rIf ft fa fb)) := by
  refine PEi (pe_ifExp hc ha hb) fun σ H Q h => ?_
  obtain ⟨H0, B, env, G, g, x, h⟩ := h
  refine ⟨H0, B, env, G, g, x, ?_⟩
  unfold rIf at h
  cases e : ft env with
  | error er => rw [e] at h; exact PostX.up g h
  | ok b =>
    rw [e] at h
    intro H1 G1 g1
    cases b with
    | true => exact ⟨H0, B, env, G1, g.trans g1, x.grow ok g1, h⟩
    | false => exact ⟨H0, B, env, G1, g.trans g1, x.grow ok g1, h⟩
def sRet (f : Sl → M R) : Sl → M Oc := fun env => (f env).bind fun r => .ok (.ret r)
theorem xs_ret (he : PE X e (rdR w W fe)) : PS X (.Return (some e) pos) (rdS w W (sRet fe)) := by
  refine PSi (ps_ret he) fun D σ H h => ?_
  obtain ⟨H0, B, env, G, g, x, h⟩ := h
  refine ⟨H0, B, env, G, g, x, ?_⟩
  unfold sRet at h
  cases e : fe env with
  | error er => rw [e] at h; exact h
  | ok r => rw [e] at h; exact h
/-- in a method: what an instance is then is told -/
def sRetS (f : Sl → M R) : Sl → M Oc := fun env => (f env).bind fun r => .ok (.rs r env)
theorem xs_retS (ok : w.Ok) (he : PE X e (rdE w W fe)) : PS X (.Return (some e) pos) (rdS w W (sRetS fe)) := by
  refine PSi (ps_ret he) fun D σ H h => ?_
  obtain ⟨H0, B, env, G, g, x, h⟩ := h
  refine ⟨H0, B, env, G, g, x, ?_⟩
  unfold sRetS at h
  cases e : fe env with
  | error er => rw [e] at h; exact PostE.err.mpr (PostX.up g h)
  | ok r =>
    rw [e] at h
    exact fun v H' G' g1 rr fr => h σ v H' G' (g.trans g1) g1.g (x.grow ok g1) rr (fr.mono g.h)
def sRetN : Sl → M Oc := fun _ => .ok (.ret (.d .none))
theorem xs_retN : PS X (.Return none pos) (rdS w W sRetN) := PSi ps_retN fun D σ H h => by
  obtain ⟨H0, B, env, G, g, x, h⟩ := h
  exact h .non H G g .non (Fr.no rfl)
/-! ### loops -/
def forGo (fG : PD → Sl → M Sl) (g : Sl → M Oc) : List PD → Sl → M Oc
  | [], env => .ok (.nx env)
  | x :: xs, env => (quiet (fG x env)).bind fun e1 => (g e1).bind fun o => match o with
    | .nx e => forGo fG g xs e
    | .ct e => forGo fG g xs e
    | .bk e => .ok (.nx e)
    | .ret r => .ok (.ret r)
    | .rs r e => .ok (.rs r e)
def sFor (fi : Sl → M (List PD)) (fG : PD → Sl → M Sl) (g : Sl → M Oc) : Sl → M Oc := fun env => (fi env).bind fun xs => forGo fG g xs env
theorem PostG.go {is : List Nat} {σ : L2.St} {H0 H G : Hp} {m : M Sl} {Q : L2.St → Hp → Prop} (h : match m with
  | .ok env' => ∀ σ', Sim w H0 env' σ' H G → Q σ' H
  | .error _ => False) : PostG w is σ H0 H G m Q := by
  cases m with
  | ok env' => exact fun σ' x _ => h σ' x
  | error _ => exact h
theorem rd_for {fi : Sl → M (List PD)} {is : List Nat} {fG : PD → Sl → M Sl} (ok : w.Ok) {D : Ends} {σ : L2.St} {H : Hp} (h : rdS w W (sFor fi fG g) D σ H) : tFor (rdI w W fi) (rdG w is fG) (rdS w W g) D σ H := by
  obtain ⟨H0, B, env, G, gr, x, h⟩ := h
  refine ⟨H0, B, env, G, gr, x, ?_⟩
  unfold sFor at h
  cases e : fi env with
  | error er => rw [e] at h; exact PostX.up gr h
  | ok xs =>
    rw [e] at h
    intro J H1 G1 g1 wk
    have h : PostS w W H0 B G (forGo fG g xs env) D := h
    refine ⟨fun i m σ' H' => m = xs.length - i ∧ i ≤ xs.length ∧ ∃ env' G', Grow H0 B H' G' ∧ Same G1 G' ∧ Sim w H0 env' σ' H' G' ∧ PostS w W H0 B G' (forGo fG g (xs.drop i) env') D,
      ⟨xs.length, by simp, Nat.zero_le _, env, G1, gr.trans g1, Same.refl G1, x.grow ok g1, by rw [List.drop_zero]; exact h.sub g1.g⟩, ?_⟩
    rintro i m σ' H' ⟨rfl, hi, env', G', gg, s1, x', hp⟩
    by_cases hlt : i < xs.length
    · have hdrop : xs.drop i = xs[i] :: xs.drop (i + 1) := List.drop_eq_getElem_cons hlt
      rw [hdrop] at hp
      refine .inr ⟨wk.go i H' G' s1 gg.s hlt, fun σ2 H2 => i + 1 ≤ xs.length ∧ ∃ env' G', Grow H0 B H2 G' ∧ Same G1 G' ∧ Sim w H0 env' σ2 H2 G' ∧ PostS w W H0 B G' (forGo fG g (xs.drop (i + 1)) env') D,
        fun σ2 H2 q => ⟨xs.length - (i + 1), by omega, rfl, q.1, q.2⟩, fun v H2 y => ?_⟩
      obtain ⟨G2, xi, hxi, rxi, g2⟩ := wk.yld i H' G' v H2 s1 gg.s hlt y
      rw [List.getElem?_eq_getElem hlt] at hxi
      cases hxi
      refine ⟨H0, B, env', G2, xs[i], gg.trans g2, x'.grow ok g2, rxi, ?_⟩
      unfold forGo at hp
      cases e3 : fG xs[i] env' with
      | error er =>
        rw [e3] at hp
        exact (hp []).elim
      | ok env1 =>
        rw [e3] at hp
        refine fun σ2 x2 _ => ⟨H0, B, env1, G2, gg.trans g2, x2, ?_⟩
        have hp : PostS w W H0 B G' ((g env1).bind fun o => match o with
          | .nx e => forGo fG g (xs.drop (i + 1)) e
          | .ct e => forGo fG g (xs.drop (i + 1)) e
          | .bk e => .ok (.nx e)
          | .ret r => .ok (.ret r)
          | .rs r e => .ok (.rs r e)) D := hp
        cases e4 : g env1 with
        | error er => rw [e4] at hp; exact hp
        | ok o =>
          rw [e4] at hp
          cases o with
          | nx e5 => exact fun σ3 H3 G3 g3 s3 x3 => ⟨hlt, e5, G3, g3, (s1.trans g2.g).trans s3, x3, PostS.sub (g2.g.trans s3) hp⟩
          | ct e5 => exact fun σ3 H3 G3 g3 s3 x3 => ⟨hlt, e5, G3, g3, (s1.trans g2.g).trans s3, x3, PostS.sub (g2.g.trans s3) hp⟩
          | bk e5 => exact fun σ3 H3 G3 g3 s3 x3 => hp σ3 H3 G3 g3 (g2.g.trans s3) x3
          | ret r => exact hp
          | rs r e5 => exact fun σ3 v3 H3 G3 g3 s3 x3 => hp σ3 v3 H3 G3 g3 (g2.g.trans s3) x3
    · have hi' : i = xs.length := by omega
      refine .inl ⟨wk.stop i H' G' s1 gg.s (by omega), ?_⟩
      rw [hi', List.drop_length] at hp
      exact hp σ' H' G' gg (Same.refl G') x'
theorem xs_for {tg iter : Expr} {body : List Stmt} {fi : Sl → M (List PD)} {is : List Nat} {fG : PD → Sl → M Sl} (ok : w.Ok) (hp : PassesOwn (model X.prog X.w) X.A X.env X.xe) (hc : X.calm = true) (hi : PI X tg iter (rdI w W fi)) (hg : PG X tg (rdG w is fG)) (hb : PSs X body (rdS w W g))
    (hs : ∀ x, foldedSetIterable iter X.env x = pure x := by intro _; rfl) : PS X (.For tg iter body [] pos) (rdS w W (sFor fi fG g)) := PSi (ps_for hp hc hi hg hb hs) fun D σ H h => rd_for ok h
def whGo (c : Sl → M Bool) (g : Sl → M Oc) : Nat → Sl → M Oc
  | 0, _ => .error .stuck
  | n + 1, env => (c env).bind fun t => if t then (g env).bind fun o => match o with
    | .nx e => whGo c g n e
    | .ct e => whGo c g n e
    | .bk e => .ok (.nx e)
    | .ret r => .ok (.ret r)
    | .rs r e => .ok (.rs r e)
    else .ok (.nx env)
theorem rd_wh {n : Nat} (ok : w.Ok) {D : Ends} {σ : L2.St} {H : Hp} (h : rdS w W (whGo ft g n) D σ H) : tWhile (rdT w W ft) (rdS w W g) D σ H := by
  obtain ⟨H0, B, env, G, gr, x, h⟩ := h
  refine ⟨fun m σ' H' => ∃ env' G', Grow H0 B H' G' ∧ Sim w H0 env' σ' H' G' ∧ PostS w W H0 B G' (whGo ft g m env') D, ⟨n, env, G, gr, x, h⟩, ?_⟩
  rintro m σ' H' ⟨env', G', gg, x', hp⟩
  cases m with
  | zero => exact (hp []).elim
  | succ m =>
    unfold whGo at hp
    refine ⟨H0, B, env', G', gg, x', ?_⟩
    cases e : ft env' with
    | error er => rw [e] at hp; exact PostX.up gg hp
    | ok b =>
      rw [e] at hp
      intro H1 G1 g1
      cases b with
      | false =>
        show D.nx σ' H1
        exact hp σ' H1 G1 (gg.trans g1) g1.g (x'.grow ok g1)
      | true =>
        have hp : PostS w W H0 B G' ((g env').bind fun o => match o with
          | .nx e => whGo ft g m e
          | .ct e => whGo ft g m e
          | .bk e => .ok (.nx e)
          | .ret r => .ok (.ret r)
          | .rs r e => .ok (.rs r e)) D := hp
        rw [if_pos rfl]
        refine ⟨fun σ2 H2 => ∃ env' G', Grow H0 B H2 G' ∧ Sim w H0 env' σ2 H2 G' ∧ PostS w W H0 B G' (whGo ft g m env') D, fun σ2 H2 q => ⟨m, Nat.lt_succ_self m, q⟩, H0, B, env', G1, gg.trans g1, x'.grow ok g1, ?_⟩
        cases e4 : g env' with
        | error er => rw [e4] at hp; exact hp
        | ok o =>
          rw [e4] at hp
          cases o with
          | nx e5 => exact fun σ3 H3 G3 g3 s3 x3 => ⟨e5, G3, g3, x3, PostS.sub (g1.g.trans s3) hp⟩
          | ct e5 => exact fun σ3 H3 G3 g3 s3 x3 => ⟨e5, G3, g3, x3, PostS.sub (g1.g.trans s3) hp⟩
          | bk e5 => exact fun σ3 H3 G3 g3 s3 x3 => hp σ3 H3 G3 g3 (g1.g.trans s3) x3
          | ret r => exact hp
          | rs r e5 => exact fun σ3 v3 H3 G3 g3 s3 x3 => hp σ3 v3 H3 G3 g3 (g1.g.trans s3) x3
theorem xs_while {c : Expr} {body : List Stmt} (n : Nat) (ok : w.Ok) (hp : PassesOwn (model X.prog X.w) X.A X.env X.xe) (hc : PT X c (rdT w W ft)) (hb : PSs X body (rdS w W g)) : PS X (.While c body [] pos) (rdS w W (whGo ft g n)) := PSi (ps_while hp hc hb) fun D σ H h => rd_wh ok h
def sBrk : Sl → M Oc := fun env => .ok (.bk env)
def sCnt : Sl → M Oc := fun env => .ok (.ct env)
theorem xs_break : PS X (.Break pos) (rdS w W sBrk) := PSi ps_break fun D σ H h => by
  obtain ⟨H0, B, env, G, g, x, h⟩ := h
  exact h σ H G g (Same.refl G) x
theorem xs_continue : PS X (.Continue pos) (rdS w W sCnt) := PSi ps_continue fun D σ H h => by
  obtain ⟨H0, B, env, G, g, x, h⟩ := h
  exact h σ H G g (Same.refl G) x
end
end Vs
end
section
namespace Vs
open PySem PySem.Spec PyProof.Rows L2

variable {w : Wd} {W : WX}
/-- a slot's own thing is changed -/
theorem Sim.writeO {H0 : Hp} {env : Sl} {σ : L2.St} {H G : Hp} {i : Nat} {r : R} (x : Sim w H0 env σ H G) (e : env[i]? = some (some r)) (ho : r.own = true) :
    ∃ p, σ[i]? = some (some (.ref p)) ∧ H0 p = none ∧ G p = none ∧ Rr w H G (.ref p) r ∧ (∀ B, Grow H0 B H G → ∀ o, Grow H0 B (upd H p o) G) ∧
      ∀ o r', r'.held = r' → r'.own = true → (∀ a, foot (upd H p o) r' (.ref p) a → a = p) → Rr w (upd H p o) G (.ref p) r' → Sim w H0 (env.set i (some r')) σ (upd H p o) G := by
  obtain ⟨hh, v, hv, rr, h0⟩ := x.at_ i r e
  obtain ⟨p, o0, rfl, nG, hp⟩ := rr.place ho
  have n0 := h0 p (foot_self ho)
  refine ⟨p, hv, n0, nG, rr, fun B g o => ⟨fun a u q => ?_, g.g, fun a u q => ?_, g.a⟩, fun o r' hh' ho' hf rr' => ?_⟩
  · rw [upd_ne (ne_of_none q n0)]; exact g.h a u q
  · rw [upd_ne (ne_of_none q nG)]; exact g.s a u q
  · have hi : i < env.length := (List.getElem?_eq_some_iff.mp e).1
    have off : ∀ {j : Nat} {r1 : R} {u : V}, j ≠ i → env[j]? = some (some r1) → σ[j]? = some (some u) → ∀ a, foot H r1 u a → a ≠ p := fun {j r1 u} hj e1 s1 a f z => hj (by
      subst z
      exact x.inj j i r1 r u _ a e1 e s1 hv f (foot_self ho))
    have low : ∀ {l : Nat} {r1 : R} {u : V} {a : Addr}, (env.set i (some r'))[l]? = some (some r1) → σ[l]? = some (some u) → foot (upd H p o) r1 u a → ∃ r3, env[l]? = some (some r3) ∧ foot H r3 u a := fun {l r1 u a} q1 q2 f => by
      by_cases hl : l = i
      · subst hl
        rw [List.getElem?_set_self hi] at q1
        cases q1
        rw [hv] at q2
        cases q2
        have := hf a f
        subst this
        exact ⟨r, e, foot_self ho⟩
      · rw [List.getElem?_set_ne (Ne.symm hl)] at q1
        obtain ⟨_, u', b, c, _⟩ := x.at_ l r1 q1
        rw [q2] at b
        cases b
        exact ⟨r1, q1, foot_upd (off hl q1 q2) c f⟩
    refine ⟨by simp [x.len], fun j r1 e1 => ?_, fun j k r1 r2 u1 u2 a e1 e2 s1 s2 f1 f2 => ?_⟩
    · by_cases hj : j = i
      · subst hj
        rw [List.getElem?_set_self hi] at e1
        cases e1
        exact ⟨hh', .ref p, hv, rr', fun a f => by rw [hf a f]; exact n0⟩
      · rw [List.getElem?_set_ne (Ne.symm hj)] at e1
        obtain ⟨a, u, b, c, d⟩ := x.at_ j r1 e1
        exact ⟨a, u, b, c.other nG (off hj e1 b), fun y f => d y (foot_upd (off hj e1 b) c f)⟩
    · obtain ⟨r3, e3, f3⟩ := low e1 s1 f1
      obtain ⟨r4, e4, f4⟩ := low e2 s2 f2
      exact x.inj j k r3 r4 u1 u2 a e3 e4 s1 s2 f3 f4
/-- as it is used: a list, a dict is written -/
theorem Sim.write {H0 : Hp} {env : Sl} {σ : L2.St} {H G : Hp} {i : Nat} {r : R} (x : Sim w H0 env σ H G) (e : env[i]? = some (some r)) (ho : r.own = true) :
    ∃ p, σ[i]? = some (some (.ref p)) ∧ H0 p = none ∧ G p = none ∧ Rr w H G (.ref p) r ∧ (∀ B, Grow H0 B H G → ∀ o, Grow H0 B (upd H p o) G) ∧
      ∀ o r', r'.held = r' → r'.own = true → Rr w (upd H p o) G (.ref p) r' → (hO : r'.isO = false := by rfl) → Sim w H0 (env.set i (some r')) σ (upd H p o) G := by
  obtain ⟨p, a, b, c, d, f, g⟩ := x.writeO e ho
  refine ⟨p, a, b, c, d, f, fun o r' h1 h2 h3 h4 => g o r' h1 h2 (fun q fq => ?_) h3⟩
  cases r' with
  | o op y fs => cases h4
  | D fs => cases h4
  | l _ _ => exact (by cases fq; rfl)
  | T _ _ => exact (by cases fq; rfl)
  | M _ _ => exact (by cases fq; rfl)
  | lk _ _ => exact (by cases fq; rfl)
  | _ => exact fq.elim
/-! ### expressions that change a slot's list: a value for good -/
def PostM (w : Wd) (W : WX) (H0 B G : Hp) : M (PD × Sl) → VK → Prop
  | .ok (d, env), Q => ∀ v H' G' σ, Grow H0 B H' G' → Same G G' → Sim w H0 env σ H' G' → Rp G' v d → Q v H'
  | .error e, _ => ∀ σ', PostX w W σ' H0 B e
/-- the slots' values stay, their things may change -/
def PostM' (w : Wd) (W : WX) (σ : L2.St) (H0 B G : Hp) : M (PD × Sl) → VK → Prop
  | .ok (d, env), Q => ∀ v H' G', Grow H0 B H' G' → Same G G' → Sim w H0 env σ H' G' → Rp G' v d → Q v H'
  | .error e, _ => ∀ σ', PostX w W σ' H0 B e
def rdM (w : Wd) (W : WX) (f : Sl → M (PD × Sl)) : TE := fun σ H Q => ∃ H0 B env G, Grow H0 B H G ∧ Sim w H0 env σ H G ∧ PostM' w W σ H0 B G (f env) Q
def mE (f : Sl → M R) : Sl → M (PD × Sl) := fun env => (f env).bind fun r => (dat r).bind fun d => .ok (d, env)
section
variable {X : Cx} {pos : Pos} {st : Stmt} {rest : List Stmt} {e : Expr} {es : List Expr} {g g1 g2 : Sl → M Oc} {fe : Sl → M R} {fm : Sl → M (PD × Sl)} {ft : Sl → M Bool}
theorem xm_e (ok : w.Ok) (he : PE X e (rdE w W fe)) : PE X e (rdM w W (mE fe)) := by
  refine PEi he fun σ H Q h => ?_
  obtain ⟨H0, B, env, G, g, x, h⟩ := h
  refine ⟨H0, B, env, G, g, x, ?_⟩
  unfold mE at h
  cases e : fe env with
  | error er => rw [e] at h; exact PostE.err.mpr (PostX.up g h)
  | ok r =>
    rw [e] at h
    intro v H1 G1 g1 rr fr
    have h : PostM' w W σ H0 B G ((dat r).bind fun d => .ok (d, env)) Q := h
    unfold dat at h
    cases e2 : r.dat with
    | none => rw [e2] at h; exact (h []).elim
    | some d =>
      rw [e2] at h
      obtain ⟨G2, g2, s2, rd, _⟩ := rr.lay g1 e2 fr
      exact h v H1 G2 (g.trans g2) g2.g (x.grow ok g2) rd
/-- x.pop(i), x.pop() -/
def popAt (j : Nat) (i : Int) (env : Sl) : M (PD × Sl) := match env[j]? with
  | some (some (.l _ xs)) => if xs.length ≤ big then (match ixN xs.length i with
    | some k => (match xs[k]? with
      | some d => .ok (d, env.set j (some (.l false (xs.eraseIdx k))))
      | none => .error .stuck)
    | none => .error .stuck) else .error .stuck
  | _ => .error .stuck
def mPopAt (j : Nat) (f : Sl → M R) : Sl → M (PD × Sl) := fun env => match env[j]? with
  | some (some (.l _ _)) => (f env).bind fun r => (ti r).bind fun i => popAt j i env
  | _ => .error .stuck
theorem popAt_err {j : Nat} {i : Int} {env : Sl} : ∀ er, popAt j i env = .error er → er = .stuck := fun er h => by
  unfold popAt at h
  split at h
  · split at h
    · split at h
      · split at h <;> cases h
        rfl
      · cases h; rfl
    · cases h; rfl
  · cases h; rfl
theorem big63 {n : Nat} {i : Int} (h : n ≤ big) (a : -(n : Int) ≤ i) (b : i < n) : -(2 ^ 63) ≤ i ∧ i < 2 ^ 63 := by
  have : big = 100000 := rfl
  omega
theorem xm_popAt (j : Nat) {x : Str} {p1 apos cpos : Pos} (ok : w.Ok) (hK : X.K = w.K) (hx : PE X (.Name x p1) (tVar j)) (he : PE X e (rdE w W fe))
    (hbase : attributeBase (.Name x p1) "pop" X.env (eval (.Name x p1) X.env) = eval (.Name x p1) X.env := by rfl)
    (hfew : ((backTo cpos (starEach (e :: []) X.env)).all (fun x => !x.1) && (backToKw cpos (keywordEach [] X.env)).all (fun x => x.1.isSome)
      && decide ((e :: []).length + ([] : List Keyword).length + (if ([] : List Keyword).isEmpty then 0 else 1) < 30)) = true := by rfl)
    (hline : (apos.endLine == cpos.line) = true := by rfl) (hs : starEach (e :: []) X.env = (false, eval e X.env) :: starEach [] X.env := by rfl) (hplain : (backTo cpos (starEach [] X.env)).any (·.1) = false := by rfl) :
    PE X (.Call (.Attribute (.Name x p1) "pop" apos) [e] [] cpos) (rdM w W (mPopAt j fe)) := by
  refine PEi (pe_bm PySem.F.plainAttrs_list PySem.F.slot_list_pop PySem.F.type_list_pop mt_popAt hx (pa_cons he pa_nil hs) hbase hfew hline hs hplain) fun σ H Q h => ?_
  obtain ⟨H0, B, env, G, g, x, h⟩ := h
  unfold mPopAt at h
  split at h
  · rename_i b xs e1
    obtain ⟨p, hv, n0, nG, rr, gw, wr⟩ := x.write e1 rfl
    have rr0 := rr
    obtain ⟨p', vs, e2, _, h1, h2⟩ := rr
    cases e2
    refine ⟨_, hv, ⟨.inl ⟨rfl, vs, SqL.of h1⟩, H0, B, env, G, g, x, ?_⟩⟩
    cases e3 : fe env with
    | error er => rw [e3] at h; exact PostE.err.mpr (PostX.up g h)
    | ok r =>
      rw [e3] at h
      intro v H1 G1 g1 rv _
      have h : PostM' w W σ H0 B G ((ti r).bind fun i => popAt j i env) Q := h
      cases r with
      | d y =>
        cases y with
        | int i =>
          cases rv
          have h : PostM' w W σ H0 B G (popAt j i env) Q := h
          unfold popAt at h
          rw [e1] at h
          dsimp only at h
          by_cases hz : xs.length ≤ big
          · rw [if_pos hz] at h
            cases e4 : ixN xs.length i with
            | none => rw [e4] at h; exact (h []).elim
            | some k =>
              rw [e4] at h
              dsimp only at h
              cases e5 : xs[k]? with
              | none => rw [e5] at h; exact (h []).elim
              | some d =>
                rw [e5] at h
                obtain ⟨q1, q2, q3, q4⟩ := ixN_seq e4
                have hl : vs.length = xs.length := h2.length
                obtain ⟨u, hu, ru⟩ := h2.get e5
                obtain ⟨b1, b2⟩ := big63 hz q3 q4
                obtain ⟨p2, hv2, n2, nG2, rr2, gw2, wr2⟩ := (x.grow ok g1).write e1 rfl
                rw [hv] at hv2
                cases hv2
                refine ⟨p, vs, i, k, u, rfl, rfl, g1.h _ _ h1, b1, b2, by rw [hl]; exact q1, hu, ?_⟩
                refine h u _ G1 (gw2 B (g.trans g1) _) g1.g (wr2 _ (.l false (xs.eraseIdx k)) rfl rfl ⟨p, vs.eraseIdx k, rfl, nG2, upd_same, (RpL.mono g1.g _ _ h2).eraseIdx k⟩) (Rp.mono g1.g _ _ ru)
          · rw [if_neg hz] at h; exact (h []).elim
        | _ => exact (h []).elim
      | _ => exact (h []).elim
  · exact (h []).elim
def mPop (j : Nat) : Sl → M (PD × Sl) := fun env => match env[j]? with
  | some (some (.l _ xs)) => (match xs[xs.length - 1]? with
    | some d => .ok (d, env.set j (some (.l false xs.dropLast)))
    | none => .error .stuck)
  | _ => .error .stuck
theorem RpL.dropLast {G : Hp} : ∀ {ds : List PD} {vs : List V}, RpL G vs ds → RpL G vs.dropLast ds.dropLast
  | [], _, h => by cases h; exact .nil
  | [_], _, h => by
    cases h with
    | cons h1 h2 => cases h2; exact .nil
  | _ :: _ :: _, _, h => by
    cases h with
    | cons h1 h2 => cases h2 with
      | cons h3 h4 => exact .cons h1 (RpL.dropLast (.cons h3 h4))
theorem xm_pop (j : Nat) {x : Str} {p1 apos cpos : Pos} (ok : w.Ok) (hK : X.K = w.K) (hx : PE X (.Name x p1) (tVar j))
    (hbase : attributeBase (.Name x p1) "pop" X.env (eval (.Name x p1) X.env) = eval (.Name x p1) X.env := by rfl) (hline : (apos.endLine == cpos.line) = true := by rfl) :
    PE X (.Call (.Attribute (.Name x p1) "pop" apos) [] [] cpos) (rdM w W (mPop j)) := by
  refine PEi (pe_bm0 PySem.F.plainAttrs_list PySem.F.slot_list_pop PySem.F.type_list_pop mt_pop hx hbase hline) fun σ H Q h => ?_
  obtain ⟨H0, B, env, G, g, x, h⟩ := h
  unfold mPop at h
  split at h
  · rename_i b xs e1
    split at h
    · rename_i d e5
      obtain ⟨p, hv, n0, nG, rr, gw, wr⟩ := x.write e1 rfl
      obtain ⟨p', vs, e2, _, h1, h2⟩ := rr
      cases e2
      obtain ⟨u, hu, ru⟩ := h2.get e5
      refine ⟨_, hv, .inl ⟨rfl, vs, SqL.of h1⟩, p, vs, u, rfl, rfl, h1, by rw [h2.length]; exact hu, ?_⟩
      exact h u _ G (gw B g _) (Same.refl G) (wr _ (.l false xs.dropLast) rfl rfl ⟨p, vs.dropLast, rfl, nG, upd_same, h2.dropLast⟩) ru
    · exact (h []).elim
  · exact (h []).elim
/-! ### statements that change a slot's list -/
def sSetM (i : Nat) (f : Sl → M (PD × Sl)) : Sl → M Oc := fun env => (f env).bind fun p => nxS (setS i (.d p.1) p.2)
theorem xs_setM {i : Nat} {x : Str} {pos' : Pos} (ok : w.Ok) (hN : X.N.Nodup) (hi : X.N[i]? = some x) (hx : Loc X.env.scope x) (he : PE X e (rdM w W fm)) (hs : swapsWith e (some (.Name x pos')) pos.line X.env = pure false := by rfl) (hf : X.fn x = true ∨ X.env.scope.names.lookup x = some .local := by first | exact .inl rfl | exact .inr rfl | assumption) :
    PS X (.Assign [.Name x pos'] e pos) (rdS w W (sSetM i fm)) := by
  refine PSi (ps_set hN hi hx he hs hf) fun D σ H h => ?_
  obtain ⟨H0, B, env, G, g, x, h⟩ := h
  refine ⟨H0, B, env, G, g, x, ?_⟩
  unfold sSetM at h
  cases e : fm env with
  | error er => rw [e] at h; exact h
  | ok p =>
    obtain ⟨d, env1⟩ := p
    rw [e] at h
    intro v H1 G1 g1 s1 x1 rd
    have h : PostS w W H0 B G (nxS (setS i (.d d) env1)) D := h
    cases e2 : setS i (.d d) env1 with
    | error er => rw [e2, setS_tame er e2] at h; exact (h []).elim
    | ok env2 =>
      rw [e2] at h
      exact h _ H1 G1 g1 s1 (Sim.store ok g1 x1 (Grow.refl g1.s) (r := .d d) rd (Fr.no rfl) e2)
def appS (i : Nat) (d : PD) (env : Sl) : M Sl := match env[i]? with
  | some (some (.l _ xs)) => if xs.length < big then .ok (env.set i (some (.l false (xs ++ [d])))) else .error .stuck
  | _ => .error .stuck
theorem appS_err {i : Nat} {d : PD} {env : Sl} : ∀ er, appS i d env = .error er → er = .stuck := fun er h => by
  unfold appS at h
  split at h
  · split at h <;> cases h
    rfl
  · cases h; rfl
def isL (i : Nat) (env : Sl) : Bool := match env[i]? with
  | some (some (.l _ _)) => true
  | _ => false
def sApp (i : Nat) (f : Sl → M (PD × Sl)) : Sl → M Oc := fun env => if isL i env then (f env).bind fun p => nxS (appS i p.1 p.2) else .error .stuck
theorem isL_some {i : Nat} {env : Sl} (h : isL i env = true) : ∃ b xs, env[i]? = some (some (.l b xs)) := by
  unfold isL at h
  split at h
  · rename_i b xs e; exact ⟨b, xs, e⟩
  · cases h
theorem rd_app {i : Nat} (ok : w.Ok) (hK : X.K = w.K) {D : Ends} {σ : L2.St} {H : Hp} (h : rdS w W (sApp i fm) D σ H) : tBM X.K "list" rAppend (tVar i) (tCons (rdM w W fm) tNil) σ H fun _ H1 => D.nx σ H1 := by
  obtain ⟨H0, B, env, G, g, x, h⟩ := h
  unfold sApp at h
  split at h
  · rename_i hl
    obtain ⟨b, xs, e1⟩ := isL_some hl
    obtain ⟨p, hv, n0, nG, rr, gw, wr⟩ := x.write e1 rfl
    obtain ⟨p', vs, e2, _, h1, h2⟩ := rr
    cases e2
    refine ⟨_, hv, .inl ⟨rfl, vs, SqL.of h1⟩, H0, B, env, G, g, x, ?_⟩
    cases e3 : fm env with
    | error er => rw [e3] at h; exact h
    | ok pr =>
      obtain ⟨d, env1⟩ := pr
      rw [e3] at h
      intro v H1 G1 g1 s1 x1 rd
      have h : PostS w W H0 B G (nxS (appS i d env1)) D := h
      cases e4 : appS i d env1 with
      | error er => rw [e4, appS_err er e4] at h; exact (h []).elim
      | ok env2 =>
        rw [e4] at h
        unfold appS at e4
        split at e4
        · rename_i b2 xs2 e5
          split at e4
          · rename_i hz
            cases e4
            obtain ⟨p2, hv2, n2, nG2, rr2, gw2, wr2⟩ := x1.write e5 rfl
            rw [hv] at hv2
            cases hv2
            obtain ⟨p3, vs2, e6, _, h3, h4⟩ := rr2
            cases e6
            refine ⟨p, vs2, v, rfl, rfl, h3, by rw [h4.length]; exact Nat.lt_of_lt_of_le hz (by decide), ?_⟩
            exact h σ _ G1 (gw2 B g1 _) s1 (wr2 _ (.l false (xs2 ++ [d])) rfl rfl ⟨p, vs2 ++ [v], rfl, nG2, upd_same, h4.append (RpL.one rd)⟩)
          · cases e4
        · cases e4
  · exact (h []).elim
theorem xs_app (i : Nat) {x : Str} {p1 apos cpos : Pos} (ok : w.Ok) (hK : X.K = w.K) (hx : PE X (.Name x p1) (tVar i)) (he : PE X e (rdM w W fm)) (hsw : swapsWith (.Call (.Attribute (.Name x p1) "append" apos) [e] [] cpos) none pos.line X.env = pure false := by rfl)
    (hbase : attributeBase (.Name x p1) "append" X.env (eval (.Name x p1) X.env) = eval (.Name x p1) X.env := by rfl)
    (hfew : ((backTo cpos (starEach (e :: []) X.env)).all (fun x => !x.1) && (backToKw cpos (keywordEach [] X.env)).all (fun x => x.1.isSome)
      && decide ((e :: []).length + ([] : List Keyword).length + (if ([] : List Keyword).isEmpty then 0 else 1) < 30)) = true := by rfl)
    (hline : (apos.endLine == cpos.line) = true := by rfl) (hs : starEach (e :: []) X.env = (false, eval e X.env) :: starEach [] X.env := by rfl) (hplain : (backTo cpos (starEach [] X.env)).any (·.1) = false := by rfl) :
    PS X (.Expr (.Call (.Attribute (.Name x p1) "append" apos) [e] [] cpos) pos) (rdS w W (sApp i fm)) :=
  PSi (ps_expr (pe_bm PySem.F.plainAttrs_list PySem.F.slot_list_append PySem.F.type_list_append mt_append hx (pa_cons he pa_nil hs) hbase hfew hline hs hplain) hsw) fun D σ H h => rd_app ok hK h
/-- x.extend(list) -/
def sExt (i : Nat) (f : Sl → M R) : Sl → M Oc := fun env => match env[i]? with
  | some (some (.l _ xs)) => (f env).bind fun r => (match r.lst? with
    | some ys => if xs.length + ys.length ≤ big then .ok (.nx (env.set i (some (.l false (xs ++ ys))))) else .error .stuck
    | none => .error .stuck)
  | _ => .error .stuck
theorem xs_ext (i : Nat) {x : Str} {p1 apos cpos : Pos} (ok : w.Ok) (hK : X.K = w.K) (hx : PE X (.Name x p1) (tVar i)) (he : PE X e (rdE w W fe)) (hsw : swapsWith (.Call (.Attribute (.Name x p1) "extend" apos) [e] [] cpos) none pos.line X.env = pure false := by rfl)
    (hbase : attributeBase (.Name x p1) "extend" X.env (eval (.Name x p1) X.env) = eval (.Name x p1) X.env := by rfl)
    (hfew : ((backTo cpos (starEach (e :: []) X.env)).all (fun x => !x.1) && (backToKw cpos (keywordEach [] X.env)).all (fun x => x.1.isSome)
      && decide ((e :: []).length + ([] : List Keyword).length + (if ([] : List Keyword).isEmpty then 0 else 1) < 30)) = true := by rfl)
    (hline : (apos.endLine == cpos.line) = true := by rfl) (hs : starEach (e :: []) X.env = (false, eval e X.env) :: starEach [] X.env := by rfl) (hplain : (backTo cpos (starEach [] X.env)).any (·.1) = false := by rfl) :
    PS X (.Expr (.Call (.Attribute (.Name x p1) "extend" apos) [e] [] cpos) pos) (rdS w W (sExt i fe)) := by
  refine PSi (ps_expr (pe_bm PySem.F.plainAttrs_list PySem.F.slot_list_extend PySem.F.type_list_extend mt_extend hx (pa_cons he pa_nil hs) hbase hfew hline hs hplain) hsw) fun D σ H h => ?_
  obtain ⟨H0, B, env, G, g, x, h⟩ := h
  unfold sExt at h
  split at h
  · rename_i b xs e1
    obtain ⟨p, hv, n0, nG, rr, gw, wr⟩ := x.write e1 rfl
    obtain ⟨p', vs, e2, _, h1, h2⟩ := rr
    cases e2
    refine ⟨_, hv, .inl ⟨rfl, vs, SqL.of h1⟩, H0, B, env, G, g, x, ?_⟩
    cases e3 : fe env with
    | error er => rw [e3] at h; exact PostE.err.mpr (PostX.up g h)
    | ok r =>
      rw [e3] at h
      intro v H1 G1 g1 rv _
      have h : PostS w W H0 B G (match r.lst? with
        | some ys => if xs.length + ys.length ≤ big then .ok (.nx (env.set i (some (.l false (xs ++ ys))))) else .error .stuck
        | none => .error .stuck) D := h
      cases e4 : r.lst? with
      | none => rw [e4] at h; exact (h []).elim
      | some ys =>
        rw [e4] at h
        dsimp only at h
        split at h
        · rename_i hz
          obtain ⟨q, us, rfl, hq, ru⟩ := rv.lst g1.s e4
          obtain ⟨p2, hv2, n2, nG2, rr2, gw2, wr2⟩ := (x.grow ok g1).write e1 rfl
          rw [hv] at hv2
          cases hv2
          refine ⟨p, q, vs, us, rfl, rfl, g1.h _ _ h1, hq, by rw [h2.length, ru.length]; exact big_le hz, ?_⟩
          exact h σ _ G1 (gw2 B (g.trans g1) _) g1.g (wr2 _ (.l false (xs ++ ys)) rfl rfl ⟨p, vs ++ us, rfl, nG2, upd_same, (RpL.mono g1.g _ _ h2).append ru⟩)
        · exact (h []).elim
  · exact (h []).elim
/-- x.clear() -/
def sClr (i : Nat) : Sl → M Oc := fun env => if isL i env then .ok (.nx (env.set i (some (.l false [])))) else .error .stuck
theorem xs_clr (i : Nat) {x : Str} {p1 apos cpos : Pos} (ok : w.Ok) (hK : X.K = w.K) (hx : PE X (.Name x p1) (tVar i)) (hsw : swapsWith (.Call (.Attribute (.Name x p1) "clear" apos) [] [] cpos) none pos.line X.env = pure false := by rfl)
    (hbase : attributeBase (.Name x p1) "clear" X.env (eval (.Name x p1) X.env) = eval (.Name x p1) X.env := by rfl) (hline : (apos.endLine == cpos.line) = true := by rfl) :
    PS X (.Expr (.Call (.Attribute (.Name x p1) "clear" apos) [] [] cpos) pos) (rdS w W (sClr i)) := by
  refine PSi (ps_expr (pe_bm0 PySem.F.plainAttrs_list PySem.F.slot_list_clear PySem.F.type_list_clear mt_clear hx hbase hline) hsw) fun D σ H h => ?_
  obtain ⟨H0, B, env, G, g, x, h⟩ := h
  unfold sClr at h
  split at h
  · rename_i hl
    obtain ⟨b, xs, e1⟩ := isL_some hl
    obtain ⟨p, hv, n0, nG, rr, gw, wr⟩ := x.write e1 rfl
    obtain ⟨p', vs, e2, _, h1, h2⟩ := rr
    cases e2
    exact ⟨_, hv, .inl ⟨rfl, vs, SqL.of h1⟩, p, vs, rfl, rfl, h1, h σ _ G (gw B g _) (Same.refl G) (wr _ (.l false []) rfl rfl ⟨p, [], rfl, nG, upd_same, .nil⟩)⟩
  · exact (h []).elim
/-- x[k] = e, x a slot's list -/
def setAt (i : Nat) (k : Int) (d : PD) (env : Sl) : M Sl := match env[i]? with
  | some (some (.l _ xs)) => (match ixN xs.length k with
    | some j => .ok (env.set i (some (.l false (xs.set j d))))
    | none => .error .stuck)
  | _ => .error .stuck
def sItm (i : Nat) (fk fv : Sl → M R) : Sl → M Oc := fun env => if isL i env then (fv env).bind fun r => (dat r).bind fun d => (fk env).bind fun k => (ti k).bind fun j => nxS (setAt i j d env) else .error .stuck
theorem xs_itm (i : Nat) {x : Str} {ek : Expr} {p1 ps : Pos} {fk : Sl → M R} (ok : w.Ok) (hx : PE X (.Name x p1) (tVar i)) (hk : PE X ek (rdE w W fk)) (he : PE X e (rdE w W fe))
    (ha : ∀ v, assign (.Subscript (.Name x p1) ek ps) X.env v = (do
      let ov ← holding [v] (eval (.Name x p1) X.env)
      let iv ← holding [v, ov] (eval ek X.env)
      standAt ps
      holding [v, ov, iv] (setItem ov iv v)
      release [v, ov, iv] []) := by intro _; rfl)
    (hs : swapsWithSole [.Subscript (.Name x p1) ek ps] e pos.line X.env = pure false := by rfl) (hw : swappedStores [.Subscript (.Name x p1) ek ps] e X.env = pure none := by rfl)
    (h1 : (assignEach [.Subscript (.Name x p1) ek ps] X.env).map (·.2) = [assign (.Subscript (.Name x p1) ek ps) X.env] := by rfl) : PS X (.Assign [.Subscript (.Name x p1) ek ps] e pos) (rdS w W (sItm i fk fe)) := by
  refine PSi (ps_asg he (pg_sub hx hk set_list ha) hs hw h1) fun D σ H h => ?_
  obtain ⟨H0, B, env, G, g, x, h⟩ := h
  unfold sItm at h
  split at h
  · rename_i hl
    obtain ⟨b, xs, e1⟩ := isL_some hl
    obtain ⟨p, hv, n0, nG, rr, gw, wr⟩ := x.write e1 rfl
    obtain ⟨p', vs, e2, _, h1, h2⟩ := rr
    cases e2
    refine ⟨H0, B, env, G, g, x, ?_⟩
    cases e3 : fe env with
    | error er => rw [e3] at h; exact PostE.err.mpr (PostX.up g h)
    | ok r =>
      rw [e3] at h
      intro v H1 G1 g1 rv fr
      have h : PostS w W H0 B G ((dat r).bind fun d => (fk env).bind fun k => (ti k).bind fun j => nxS (setAt i j d env)) D := h
      unfold dat at h
      cases e4 : r.dat with
      | none => rw [e4] at h; exact (h []).elim
      | some d =>
        rw [e4] at h
        obtain ⟨G2, g2, s2, rd, _⟩ := rv.lay g1 e4 fr
        have h : PostS w W H0 B G ((fk env).bind fun k => (ti k).bind fun j => nxS (setAt i j d env)) D := h
        refine ⟨_, hv, H0, B, env, G2, g.trans g2, x.grow ok g2, ?_⟩
        cases e5 : fk env with
        | error er => rw [e5] at h; exact PostE.err.mpr (PostX.up (g.trans g2) h)
        | ok rk =>
          rw [e5] at h
          intro u H3 G3 g3 rk3 _
          have h : PostS w W H0 B G ((ti rk).bind fun j => nxS (setAt i j d env)) D := h
          cases rk with
          | d y =>
            cases y with
            | int j =>
              cases rk3
              have h : PostS w W H0 B G (nxS (setAt i j d env)) D := h
              unfold setAt at h
              rw [e1] at h
              dsimp only at h
              cases e6 : ixN xs.length j with
              | none => rw [e6] at h; exact (h []).elim
              | some n =>
                rw [e6] at h
                obtain ⟨p2, hv2, n2, nG2, rr2, gw2, wr2⟩ := ((x.grow ok g2).grow ok g3).write e1 rfl
                rw [hv] at hv2
                cases hv2
                refine ⟨p, vs, j, n, rfl, rfl, g3.h _ _ (g2.h _ _ h1), by rw [h2.length]; exact e6, ?_⟩
                exact h σ _ G3 (gw2 B ((g.trans g2).trans g3) _) (g2.g.trans g3.g) (wr2 _ (.l false (xs.set n d)) rfl rfl ⟨p, vs.set n v, rfl, nG2, upd_same, RpL.set (Rp.mono g3.g _ _ rd) n (RpL.mono (g2.g.trans g3.g) _ _ h2)⟩)
            | _ => exact (h []).elim
          | _ => exact (h []).elim
  · exact (h []).elim
/-- a slot's own list is for good from here on -/
def sFrz (i : Nat) : Sl → M Oc := fun env => match env[i]? with
  | some (some (.l _ xs)) => .ok (.nx (env.set i (some (.d (.list xs)))))
  | _ => .error .stuck
theorem xss_frz (i : Nat) (ok : w.Ok) {sts : List Stmt} (h : PSs X sts (rdS w W g)) : PSs X sts (rdS w W (sSeq (sFrz i) g)) := by
  refine PSsi h fun D σ H h => ?_
  obtain ⟨H0, B, env, G, gg, x, h⟩ := h
  unfold sSeq sFrz at h
  split at h
  · rename_i b xs e1
    have h : PostS w W H0 B G (g (env.set i (some (.d (.list xs))))) D := h
    obtain ⟨hh, v, hv, rr, h0⟩ := x.at_ i _ e1
    obtain ⟨p, vs, rfl, nG, h1, h2⟩ := rr
    have n0 := h0 p rfl
    have hi : i < env.length := (List.getElem?_eq_some_iff.mp e1).1
    have sG : Same G (upd G p (.lst vs)) := Same.new nG
    have g2 : Grow H0 B H (upd G p (.lst vs)) := gg.keep n0 h1 nG
    have off : ∀ {j : Nat} {r1 : R} {u : V}, j ≠ i → env[j]? = some (some r1) → σ[j]? = some (some u) → ∀ a, foot H r1 u a → a ≠ p := fun {j r1 u} hj e2 s1 a f z => hj (by
      subst z
      exact x.inj j i r1 _ u _ a e2 e1 s1 hv f rfl)
    refine ⟨H0, B, env.set i (some (.d (.list xs))), upd G p (.lst vs), g2, ⟨by simp [x.len], fun j r1 e2 => ?_, fun j k r1 r2 u1 u2 y e2 e3 s1 s2 f1 f2 => ?_⟩, h.sub sG⟩
    · by_cases hj : j = i
      · subst hj
        rw [List.getElem?_set_self hi] at e2
        cases e2
        exact ⟨rfl, _, hv, Rp.lst upd_same (RpL.mono sG _ _ h2), fun _ q => q.elim⟩
      · rw [List.getElem?_set_ne (Ne.symm hj)] at e2
        obtain ⟨a, u, c, d, f⟩ := x.at_ j r1 e2
        refine ⟨a, u, c, ?_, f⟩
        have of := off hj e2 c
        cases r1 with
        | l b2 ys => obtain ⟨q, us, rfl, n, a1, a2⟩ := d; exact ⟨q, us, rfl, by rw [upd_ne (of q rfl)]; exact n, a1, RpL.mono sG _ _ a2⟩
        | T b2 ys => obtain ⟨q, us, rfl, n, a1, a3, a2⟩ := d; exact ⟨q, us, rfl, by rw [upd_ne (of q rfl)]; exact n, a1, a3, RpL.mono sG _ _ a2⟩
        | M b2 ys => obtain ⟨q, us, rfl, n, a1, a3, a2⟩ := d; exact ⟨q, us, rfl, by rw [upd_ne (of q rfl)]; exact n, a1, a3, RpL.mono sG _ _ a2⟩
        | io z fs => obtain ⟨q, C, dx, vf, e4, m, a1, a2⟩ := d; exact ⟨q, C, dx, vf, e4, m, sG _ _ a1, a2.mono sG⟩
        | q => obtain ⟨q, e4, a1⟩ := d; exact ⟨q, e4, sG _ _ a1⟩
        | lk b2 ys => obtain ⟨us, rfl, n, a1, a2⟩ := d; exact ⟨us, rfl, by rw [upd_ne (of _ rfl)]; exact n, a1, RpL.mono sG _ _ a2⟩
        | o op z fs => obtain ⟨q, C, dx, vf, rfl, oq, m, n, a1, a2⟩ := d; exact ⟨q, C, dx, vf, rfl, oq, m, by rw [upd_ne (of q (.inl rfl))]; exact n, a1, a2.good nG fun g hm => of p (.inr ⟨q, C, dx, vf, g, rfl, a1, hm⟩) rfl⟩
        | D fs => obtain ⟨q, kv, rfl, n, a1, a2⟩ := d; exact ⟨q, kv, rfl, by rw [upd_ne (of q (.inl rfl))]; exact n, a1, a2.good nG fun g hm => of p (.inr ⟨q, kv, g, rfl, a1, hm⟩) rfl⟩
        | d y => exact Rp.mono sG _ _ d
        | s ns => obtain ⟨q, e4, a1⟩ := d; exact ⟨q, e4, sG.seq a1⟩
        | z ys => obtain ⟨q, e4, a1⟩ := d; exact ⟨q, e4, ok.seto _ _ _ _ sG a1⟩
        | e y z => obtain ⟨q, e4, a1⟩ := d; exact ⟨q, e4, ok.exo _ _ _ _ _ sG a1⟩
        | f y => exact d
    · have low : ∀ {l : Nat} {r3 : R} {u : V}, (env.set i (some (.d (.list xs))))[l]? = some (some r3) → foot H r3 u y → l ≠ i ∧ env[l]? = some (some r3) := fun {l r3 u} q1 q2 => by
        by_cases hl : l = i
        · subst hl
          rw [List.getElem?_set_self hi] at q1
          cases q1
          exact q2.elim
        · rw [List.getElem?_set_ne (Ne.symm hl)] at q1
          exact ⟨hl, q1⟩
      obtain ⟨_, e2⟩ := low e2 f1
      obtain ⟨_, e3⟩ := low e3 f2
      exact x.inj j k r1 r2 u1 u2 y e2 e3 s1 s2 f1 f2
  · exact (h []).elim
/-- a, b = e: a tuple's parts -/
def sUnp (fG : PD → Sl → M Sl) (f : Sl → M R) : Sl → M Oc := fun env => (f env).bind fun r => (dat r).bind fun d => nxS (quiet (fG d env))
theorem xs_unp {tg : Expr} {is : List Nat} {fG : PD → Sl → M Sl} (ok : w.Ok) (he : PE X e (rdE w W fe)) (hg : PG X tg (rdG w is fG)) (hs : swapsWithSole [tg] e pos.line X.env = pure false := by rfl) (hw : swappedStores [tg] e X.env = pure none := by rfl)
    (h1 : (assignEach [tg] X.env).map (·.2) = [assign tg X.env] := by rfl) : PS X (.Assign [tg] e pos) (rdS w W (sUnp fG fe)) := by
  refine PSi (ps_asg he hg hs hw h1) fun D σ H h => ?_
  refine rdS_E (k := fun r env => (dat r).bind fun d => nxS (quiet (fG d env))) ok h fun H0 B env G r v H1 G1 g x0 g1 x rr fr h => ?_
  unfold dat at h
  cases e2 : r.dat with
  | none => rw [e2] at h; exact (h []).elim
  | some d =>
    rw [e2] at h
    obtain ⟨G2, g2, s2, rd, _⟩ := rr.lay g1 e2 fr
    have h : PostS w W H0 B G1 (nxS (quiet (fG d env))) D := h
    refine ⟨H0, B, env, G2, d, g.trans g2, x0.grow ok g2, rd, ?_⟩
    cases e3 : fG d env with
    | error er => rw [e3] at h; exact (h []).elim
    | ok env' =>
      rw [e3] at h
      exact fun σ' x' _ => h σ' H1 G2 (g.trans g2) s2 x'
/-- a, b = x, y -/
def par2 (i j : Nat) (ds : List PD) (env : Sl) : M Sl := match ds with
  | [a, b] => if i < env.length ∧ j < env.length then .ok ((env.set i (some (.d a))).set j (some (.d b))) else .error .stuck
  | _ => .error .stuck
def sPar (i j : Nat) (fs : Sl → M (List PD)) : Sl → M Oc := fun env => (fs env).bind fun ds => nxS (par2 i j ds env)
theorem xs_par {i j : Nat} {x y : Str} {a b : Expr} {fs : Sl → M (List PD)} {px py pt : Pos} {kt k2 pt2} (ok : w.Ok) (hc : X.calm = true) (hN : X.N.Nodup) (hi : X.N[i]? = some x) (hj : X.N[j]? = some y) (hij : i ≠ j)
    (hx : X.env.scope.names.lookup x = some .local) (hy : X.env.scope.names.lookup y = some .local) (ha : PA X [a, b] (rdD w W fs))
    (hw : swappedStores [.Tuple [.Name x px, .Name y py] kt pt] (.Tuple [a, b] k2 pt2) X.env = pure (some [x, y]))
    (hs : swapsWithSole [.Tuple [.Name x px, .Name y py] kt pt] (.Tuple [a, b] k2 pt2) pos.line X.env = pure false := by rfl) :
    PS X (.Assign [.Tuple [.Name x px, .Name y py] kt pt] (.Tuple [a, b] k2 pt2) pos) (rdS w W (sPar i j fs)) := by
  refine PSi (ps_par hc hN hi hj hij hx hy ha hw hs) fun D σ H h => ?_
  obtain ⟨H0, B, env, G, g, x, h⟩ := h
  refine ⟨H0, B, env, G, g, x, ?_⟩
  unfold sPar at h
  cases e : fs env with
  | error er => rw [e] at h; exact PostX.up g h
  | ok ds =>
    rw [e] at h
    intro vs H1 G1 g1 rs
    have h : PostS w W H0 B G (nxS (par2 i j ds env)) D := h
    unfold par2 at h
    split at h
    · cases rs with
      | cons r1 r2 =>
        cases r2 with
        | cons r3 r4 =>
          cases r4
          split at h
          · rename_i hl
            refine ⟨_, _, rfl, h _ H1 G1 (g.trans g1) g1.g ?_⟩
            refine Sim.set (Sim.set (x.grow ok g1) hl.1 rfl r1 (fun _ f => f.elim) (fun _ _ _ _ _ _ _ f => f.elim)) (by simpa using hl.2) rfl r3 (fun _ f => f.elim) (fun _ _ _ _ _ _ _ f => f.elim)
          · exact (h []).elim
    · exact (h []).elim
/-! ### refusals -/
structure Xc (w : Wd) (x : Str) : Prop where
  ex : ∃ C, w.mg x = some (.ref C) ∧ PySem.W.excIn w.K C [.type "ValueError", .type "Exception", .type "BaseException", .type "object"] "ValueError.__new__" = true ∧ PySem.W.keepIn w.K (.ref C) = true ∧ PySem.W.subIn w.K (.ref C) (.type "BaseException") = some true ∧ PySem.W.typeIn w.K (.ref C) = some (.type "type")
def sRaise (x : Str) : Sl → M Oc := fun _ => .error (.exc x none)
theorem xs_raise {x m : Str} {j : Nat} {p p2 p3 : Pos} (hK : X.K = w.K) (hM : X.mg = w.mg) (hc : X.calm = true) (tk : Takes X W) (c : Xc w x) (hg : Gl X x) (hdb : (x == ("__debug__" : Str)) = false := by decide) :
    PS X (.Raise (some (.Call (.Name x p) [.Constant (.str m) j p2] [] p3)) none pos) (rdS w W (sRaise x)) := by
  obtain ⟨C, h1, h2, h3, h4, h5⟩ := c.ex
  rw [← hM] at h1
  rw [← hK] at h2 h3 h4 h5
  refine PSi (ps_raise hc tk (pmk_own PySem.F.excBase_ValueError h2 h1 h3 (raises_own h4 h5) hg hdb)) fun D σ H h => ?_
  obtain ⟨H0, B, env, G, g, _, h⟩ := h
  rw [hM] at h1
  exact h σ C H G h1 g
end
/-! ### a def -/
def startS (n : Nat) (rs : List R) : Sl := rs.map some ++ List.replicate (n - rs.length) none
/-- what a def of n slots does with its arguments -/
def runM (n : Nat) (g : Sl → M Oc) (rs : List R) : M R := (g (startS n rs)).bind fun o => match o with
  | .ret r => .ok r
  | .rs r _ => .ok r
  | .nx _ => .ok (.d .none)
  | _ => .error .stuck
theorem own_held {r : R} (h : r.own = false) : r.held = r := by
  cases r <;> first | rfl | cases h
theorem Sim.start {B H : Hp} {N : List Str} {vs : List V} {rs : List R} (s : Same B H) (rr : RrL w H B vs rs) (ho : ∀ r ∈ rs, r.own = false) : Sim w H (startS N.length rs) (L2.start N vs) H B := by
  have hl := rr.length
  have get : ∀ {i : Nat} {r : R}, (startS N.length rs)[i]? = some (some r) → rs[i]? = some r := fun {i r} e => by
    unfold startS at e
    by_cases hi : i < rs.length
    · rw [List.getElem?_append_left (by simpa using hi), List.getElem?_map] at e
      cases q : rs[i]? with
      | none => rw [q] at e; cases e
      | some u => rw [q] at e; simpa using e
    · rw [List.getElem?_append_right (by simpa using hi)] at e
      rw [List.getElem?_replicate] at e
      split at e <;> simp at e
  have at' : ∀ {vs : List V} {rs : List R}, RrL w H B vs rs → ∀ {i : Nat} {r : R}, rs[i]? = some r → ∃ v, vs[i]? = some v ∧ Rr w H B v r := by
    intro vs rs h
    induction h with
    | nil => intro i r e; simp at e
    | cons r1 _ ih =>
      intro i r e
      cases i with
      | zero => simp at e; subst e; exact ⟨_, rfl, r1⟩
      | succ i =>
        obtain ⟨v, a, b⟩ := ih (by simpa using e)
        exact ⟨v, by simpa using a, b⟩
  refine ⟨by simp [startS, L2.start, hl], fun i r e => ?_, fun i j r r' v v' a e1 e2 s1 s2 f1 f2 => ?_⟩
  · have e1 := get e
    have hr := ho r (List.mem_of_getElem? e1)
    obtain ⟨v, hv, q⟩ := at' rr e1
    refine ⟨own_held hr, v, ?_, q, fun a f => by have z := foot_own f; rw [hr] at z; cases z⟩
    have hi : i < vs.length := (List.getElem?_eq_some_iff.mp hv).1
    unfold L2.start
    rw [List.getElem?_append_left (by simpa using hi), List.getElem?_map, hv]
    rfl
  · have := ho r (List.mem_of_getElem? (get e1))
    rw [foot_own f1] at this
    cases this
abbrev WD (E : XK) : WX := fun cls d _ H => E cls d H
theorem fn_okM {P : Program} {wd : World} {base : Heap} {x qual : Str} {st : Stmt} {f : Addr} {fd : FuncData} {N ps : List Str} {k n : Nat} {g : Sl → M Oc} (F : FunD w.K x qual (defArgs st) (defBody st) (defScope st) [] [] f fd) (S : FnScope N ps (defScope st)) (hn : ps.length = n)
    (body : ∀ (cdv : Value) (A : Around) (outer : List Env) (s : Shared) (H : Hp) (E : XK), Room k (A.deeper (envOfC qual (defScope st) s.heap.objs.size f cdv)) →
      PSs (cxOf (L2.CX P wd) P wd w.K w.mg base N qual (defScope st) f cdv A outer s H E) (defBody st) (rdS w (WD E) g)) : FnOk P wd w.K w.mg base (L2.CX P wd) (k + 1) f fd ps (spM w n (runM N.length g)) := by
  refine F.ok S (fun vs H Q E h => h.1.trans hn.symm) (fun cdv A outer s H vs Q E hr h => ⟨_, body cdv A outer s H E hr, ?_⟩)
  obtain ⟨hl, B, rs, sB, rr, ho, h⟩ := h
  refine ⟨H, B, startS N.length rs, B, Grow.refl sB, Sim.start sB rr ho, ?_⟩
  unfold runM at h
  cases e : g (startS N.length rs) with
  | error er =>
    rw [e] at h
    intro σ'
    have h : PostX w (fun c d _ H' => E c d H') [] H B er := h
    cases er with
    | stuck => exact h
    | exc z i => cases i <;> exact h
  | ok o =>
    rw [e] at h
    cases o with
    | nx env => exact fun σ' H' G' gg _ _ => h .non H' G' gg .non (Fr.no rfl)
    | ret r => exact h
    | rs r env => exact fun σ' v H' G' gg _ _ rr fr => h v H' G' gg rr fr
    | bk env => exact h.elim
    | ct env => exact h.elim
end Vs
end
section
namespace Vs
open PySem PySem.Spec PyProof.Rows L2

variable {w : Wd} {W : WX}
/-! ### views -/
def R.int? : R → Option Int
  | .d (.int i) => some i
  | _ => none
def R.str? : R → Option Str
  | .d (.str x) => some x
  | _ => none
def R.bool? : R → Option Bool
  | .d (.bool x) => some x
  | _ => none
theorem R.int_eq {r : R} {i : Int} (h : r.int? = some i) : r = .d (.int i) := by
  unfold R.int? at h
  split at h
  · cases h; rfl
  · cases h
theorem R.str_eq {r : R} {x : Str} (h : r.str? = some x) : r = .d (.str x) := by
  unfold R.str? at h
  split at h
  · cases h; rfl
  · cases h
theorem R.bool_eq {r : R} {x : Bool} (h : r.bool? = some x) : r = .d (.bool x) := by
  unfold R.bool? at h
  split at h
  · cases h; rfl
  · cases h
def ints? : List PD → Option (List Int)
  | [] => some []
  | .int i :: r => (ints? r).map (i :: ·)
  | _ :: _ => none
def bools? : List PD → Option (List Bool)
  | [] => some []
  | .bool i :: r => (bools? r).map (i :: ·)
  | _ :: _ => none
def prs? : List PD → Option (List (Int × Int))
  | [] => some []
  | .tuple [.int i, .int j] :: r => (prs? r).map ((i, j) :: ·)
  | _ :: _ => none
def prD (p : Int × Int) : PD := .tuple [.int p.1, .int p.2]
theorem ints_eq : ∀ {xs : List PD} {ns : List Int}, ints? xs = some ns → xs = ns.map PyData.int
  | [], ns, h => by cases h; rfl
  | x :: r, ns, h => by
    cases x with
    | int i =>
      simp only [ints?, Option.map_eq_some_iff] at h
      obtain ⟨ms, h1, rfl⟩ := h
      rw [ints_eq h1]; rfl
    | _ => simp [ints?] at h
theorem bools_eq : ∀ {xs : List PD} {ns : List Bool}, bools? xs = some ns → xs = ns.map PyData.bool
  | [], ns, h => by cases h; rfl
  | x :: r, ns, h => by
    cases x with
    | bool i =>
      simp only [bools?, Option.map_eq_some_iff] at h
      obtain ⟨ms, h1, rfl⟩ := h
      rw [bools_eq h1]; rfl
    | _ => simp [bools?] at h
theorem prs_eq : ∀ {xs : List PD} {ns : List (Int × Int)}, prs? xs = some ns → xs = ns.map prD
  | [], ns, h => by cases h; rfl
  | x :: r, ns, h => by
    unfold prs? at h
    split at h
    · rename_i e; cases e
    · rename_i i j r' e
      cases e
      rw [Option.map_eq_some_iff] at h
      obtain ⟨ms, h1, rfl⟩ := h
      rw [prs_eq h1]; rfl
    · cases h
theorem ints_of : ∀ ns : List Int, ints? (ns.map PyData.int) = some ns
  | [] => rfl
  | n :: ns => by simp [ints?, ints_of ns]
theorem bools_of : ∀ ns : List Bool, bools? (ns.map PyData.bool) = some ns
  | [] => rfl
  | n :: ns => by simp [bools?, bools_of ns]
theorem prs_of : ∀ ns : List (Int × Int), prs? (ns.map prD) = some ns
  | [] => rfl
  | n :: ns => by simp [prs?, prD, prs_of ns]
/-! ### arithmetic -/
def stk {α : Type} : M α := .error .stuck
theorem stk_tame {α : Type} (x : Str) (i : Option Int) : (stk : M α) ≠ .error (.exc x i) := fun h => by cases h
def oI (C : Int → Int → Prop) [∀ i j, Decidable (C i j)] (f : Int → Int → PD) : Op := fun a b => match a.int?, b.int? with
  | some i, some j => if C i j then .ok (.d (f i j)) else .error .stuck
  | _, _ => .error .stuck
theorem oI_tame {C : Int → Int → Prop} [∀ i j, Decidable (C i j)] {f : Int → Int → PD} : Tame (oI C f) := fun a b x i h => by
  unfold oI at h
  split at h
  · split at h <;> cases h
  · cases h
theorem oI_ok {C : Int → Int → Prop} [∀ i j, Decidable (C i j)] {f : Int → Int → PD} {g : Int → Int → V} (hf : ∀ i j G, Rp G (g i j) (f i j)) : OpS w (rI C g) (oI C f) := by
  intro H G v1 v2 r1 r2 Q s rr1 rr2 h
  unfold oI at h
  split at h
  · rename_i i j e1 e2
    rw [R.int_eq e1] at rr1
    rw [R.int_eq e2] at rr2
    cases rr1; cases rr2
    split at h
    · rename_i c
      exact ⟨i, j, rfl, rfl, c, h.done s (hf i j G) (Fr.no rfl)⟩
    · exact h.elim
  · exact h.elim
def CT (_ _ : Int) : Prop := True
instance (i j : Int) : Decidable (CT i j) := .isTrue trivial
theorem oI0_ok {f : Int → Int → PD} {g : Int → Int → V} (hf : ∀ i j G, Rp G (g i j) (f i j)) : OpS w (rI0 g) (oI CT f) := fun H G v1 v2 r1 r2 Q s rr1 rr2 h => by
  obtain ⟨i, j, a, b, _, c⟩ := oI_ok (C := CT) (f := f) (g := g) hf H G v1 v2 r1 r2 Q s rr1 rr2 h
  exact ⟨i, j, a, b, c⟩
/-- + of ints, texts, lists -/
def oAdd : Op := fun a b => match a.int?, b.int? with
  | some i, some j => .ok (.d (.int (i + j)))
  | _, _ => match a.str?, b.str? with
    | some x, some y => if x.length + y.length ≤ big then .ok (.d (.str (x ++ y))) else .error .stuck
    | _, _ => match a.lst?, b.lst? with
      | some xs, some ys => mkL (xs ++ ys)
      | _, _ => .error .stuck
theorem oAdd_tame : Tame oAdd := fun a b x i h => by
  unfold oAdd at h
  split at h
  · cases h
  · split at h
    · split at h <;> cases h
    · split at h
      · exact mkL_tame _ _ _ h
      · cases h
def rAdd3 : R2 := fun x y H Q => rI0 (fun i j => .int (i + j)) x y H Q ∨ (∃ i j, x = V.str i ∧ y = V.str j ∧ i.length + j.length ≤ sizeLine ∧ Q (.str (i ++ j)) H) ∨ rCat x y H Q
theorem op_add3 {X : Cx} : OpR X (binaryOp .Add) rAdd3 := op_add.or (op_add_str.or op_cat)
theorem oAdd_ok : OpS w rAdd3 oAdd := by
  intro H G v1 v2 r1 r2 Q s rr1 rr2 h
  unfold oAdd at h
  split at h
  · rename_i i j e1 e2
    rw [R.int_eq e1] at rr1
    rw [R.int_eq e2] at rr2
    cases rr1; cases rr2
    exact .inl ⟨i, j, rfl, rfl, h.done s (.int _) (Fr.no rfl)⟩
  · split at h
    · rename_i x y e1 e2
      rw [R.str_eq e1] at rr1
      rw [R.str_eq e2] at rr2
      cases rr1; cases rr2
      split at h
      · rename_i hz
        exact .inr (.inl ⟨x, y, rfl, rfl, big_le hz, h.done s (.str _) (Fr.no rfl)⟩)
      · exact h.elim
    · split at h
      · rename_i xs ys e1 e2
        obtain ⟨p, vs, rfl, h1, q1⟩ := rr1.lst s e1
        obtain ⟨q, us, rfl, h2, q2⟩ := rr2.lst s e2
        obtain ⟨z, k⟩ := PostO.mkL h s (q1.append q2)
        exact .inr (.inr ⟨p, q, vs, us, rfl, rfl, h1, h2, by rw [← List.length_append]; exact z, k⟩)
      · exact h.elim
/-- * of ints, of a list and an int -/
def small64 (i : Int) : Prop := -(2 ^ 64) < i ∧ i < 2 ^ 64
theorem small64_iff {i : Int} : i.natAbs < 18446744073709551616 ↔ small64 i := by unfold small64; omega
instance (i : Int) : Decidable (small64 i) := decidable_of_iff _ small64_iff
def oMul : Op := fun a b => match a.int?, b.int? with
  | some i, some j => if small64 i ∨ small64 j then .ok (.d (.int (i * j))) else .error .stuck
  | none, some k => (match a.lst? with
    | some xs => if 0 ≤ k ∧ k ≤ 100000 ∧ xs.length * k.toNat ≤ big then .ok (.l true (List.replicate k.toNat xs).flatten) else .error .stuck
    | none => .error .stuck)
  | _, _ => .error .stuck
theorem oMul_tame : Tame oMul := fun a b x i h => by
  unfold oMul at h
  split at h
  · split at h <;> cases h
  · split at h
    · split at h <;> cases h
    · cases h
  · cases h
def rMul2 : R2 := fun x y H Q => rI CMul (fun i j => .int (i * j)) x y H Q ∨ rRep x y H Q
theorem op_mul2 {X : Cx} : OpR X (binaryOp .Mult) rMul2 := op_mul.or op_rep
theorem RpL.rep {G : Hp} {vs : List V} {xs : List PD} (r : RpL G vs xs) : ∀ n : Nat, RpL G (List.replicate n vs).flatten (List.replicate n xs).flatten
  | 0 => .nil
  | n + 1 => by
    rw [List.replicate_succ, List.replicate_succ, List.flatten_cons, List.flatten_cons]
    exact r.append (RpL.rep r n)
theorem oMul_ok : OpS w rMul2 oMul := by
  intro H G v1 v2 r1 r2 Q s rr1 rr2 h
  unfold oMul at h
  split at h
  · rename_i i j e1 e2
    rw [R.int_eq e1] at rr1
    rw [R.int_eq e2] at rr2
    cases rr1; cases rr2
    split at h
    · rename_i c
      exact .inl ⟨i, j, rfl, rfl, c, h.done s (.int _) (Fr.no rfl)⟩
    · exact h.elim
  · rename_i k e1 e2
    rw [R.int_eq e2] at rr2
    cases rr2
    split at h
    · rename_i xs e3
      split at h
      · rename_i c
        obtain ⟨p, vs, rfl, h1, q1⟩ := rr1.lst s e3
        refine .inr ⟨p, k, vs, rfl, rfl, h1, by omega, by omega, by rw [q1.length]; exact big_le c.2.2, ?_⟩
        exact h.mk s (q1.rep k.toNat)
      · exact h.elim
    · exact h.elim
  · exact h.elim
def oSub : Op := oI CT fun i j => .int (i - j)
def CDv (i j : Int) : Prop := 0 < j ∧ j < 1073741824
instance (i j : Int) : Decidable (CDv i j) := by unfold CDv; exact inferInstance
def oDiv : Op := oI CDv fun i j => .int (i / j)
def CMd (i j : Int) : Prop := 0 < j
instance (i j : Int) : Decidable (CMd i j) := by unfold CMd; exact inferInstance
def oMod : Op := oI CMd fun i j => .int (i % j)
def CPw (i j : Int) : Prop := 0 ≤ j ∧ j ≤ 1000000 ∧ i.natAbs < 2 ^ 64
instance (i j : Int) : Decidable (CPw i j) := by unfold CPw; exact inferInstance
def oPow : Op := oI CPw fun i j => .int (i ^ j.toNat)
def oLt : Op := oI CT fun i j => .bool (decide (i < j))
def oLe : Op := oI CT fun i j => .bool (decide (i ≤ j))
def oGt : Op := oI CT fun i j => .bool (decide (j < i))
def oGe : Op := oI CT fun i j => .bool (decide (j ≤ i))
section
variable {X : Cx} {a b c e : Expr} {es : List Expr} {pos p : Pos} {fa fb fc : Sl → M R}
theorem xe_add (ok : w.Ok) (ha : PE X a (rdE w W fa)) (hb : PE X b (rdE w W fb)) : PE X (.BinOp a .Add b pos) (rdE w W (eOp oAdd fa fb)) := xe_op ok op_add3 oAdd_ok oAdd_tame ha hb
theorem xe_sub (ok : w.Ok) (ha : PE X a (rdE w W fa)) (hb : PE X b (rdE w W fb)) : PE X (.BinOp a .Sub b pos) (rdE w W (eOp oSub fa fb)) := xe_op ok op_sub (oI0_ok fun _ _ _ => .int _) oI_tame ha hb
theorem xe_mul (ok : w.Ok) (ha : PE X a (rdE w W fa)) (hb : PE X b (rdE w W fb)) : PE X (.BinOp a .Mult b pos) (rdE w W (eOp oMul fa fb)) := xe_op ok op_mul2 oMul_ok oMul_tame ha hb
theorem xe_div (ok : w.Ok) (ha : PE X a (rdE w W fa)) (hb : PE X b (rdE w W fb)) : PE X (.BinOp a .FloorDiv b pos) (rdE w W (eOp oDiv fa fb)) := xe_op ok op_fdiv (oI_ok (C := CDv) fun _ _ _ => .int _) oI_tame ha hb
theorem xe_mod (ok : w.Ok) (ha : PE X a (rdE w W fa)) (hb : PE X b (rdE w W fb)) : PE X (.BinOp a .Mod b pos) (rdE w W (eOp oMod fa fb)) := xe_op ok op_mod (oI_ok (C := CMd) fun _ _ _ => .int _) oI_tame ha hb
theorem xe_pow (ok : w.Ok) (ha : PE X a (rdE w W fa)) (hb : PE X b (rdE w W fb)) : PE X (.BinOp a .Pow b pos) (rdE w W (eOp oPow fa fb)) := xe_op ok op_pow (oI_ok (C := CPw) fun _ _ _ => .int _) oI_tame ha hb
def oNeg : R → M R := fun r => match r.int? with
  | some i => .ok (.d (.int (-i)))
  | none => .error .stuck
def eUn (o : R → M R) (f : Sl → M R) : Sl → M R := fun env => (f env).bind o
theorem xe_neg (ok : w.Ok) (ha : PE X a (rdE w W fa)) : PE X (.UnaryOp .USub a pos) (rdE w W (eUn oNeg fa)) := by
  refine PEi (pe_un un_neg ha) fun σ H Q h => ?_
  obtain ⟨H0, B, env, G, g, x, h⟩ := h
  refine rdE_bind ok g x h fun r v H1 G1 g1 rr _ g01 x1 h1 => ?_
  unfold oNeg at h1
  split at h1
  · rename_i i e1
    rw [R.int_eq e1] at rr
    cases rr
    exact ⟨i, rfl, h1.done g1.s (.int _) (Fr.no rfl)⟩
  · exact h1.elim
theorem ltS : OpS w (rI0 fun i j => .bl (decide (i < j))) oLt := oI0_ok fun _ _ _ => .bl _
theorem leS : OpS w (rI0 fun i j => .bl (decide (i ≤ j))) oLe := oI0_ok fun _ _ _ => .bl _
theorem gtS : OpS w (rI0 fun i j => .bl (decide (j < i))) oGt := oI0_ok fun _ _ _ => .bl _
theorem geS : OpS w (rI0 fun i j => .bl (decide (j ≤ i))) oGe := oI0_ok fun _ _ _ => .bl _
/-! ### == and != of data -/
def oEq (neg : Bool) : Op := fun a b => match a.view, b.view with
  | some x, some y => if SeqAt.shaped x = true ∧ SeqAt.shaped y = true then .ok (.d (.bool (xor neg (PyData.eqv x y)))) else .error .stuck
  | _, _ => .error .stuck
theorem oEq_tame {neg : Bool} : Tame (oEq neg) := fun a b x i h => by
  unfold oEq at h
  split at h
  · split at h <;> cases h
  · cases h
theorem eqS {K : PySem.W.Frag} (hK : K = w.K) : OpS w (rEqD K) (oEq false) := by
  subst hK
  intro H G v1 v2 r1 r2 Q s rr1 rr2 h
  unfold oEq at h
  split at h
  · rename_i x y e1 e2
    split at h
    · rename_i c
      refine ⟨x, y, rr1.vw s e1 (noD_shaped c.1), rr2.vw s e2 (noD_shaped c.2), c.1, c.2, h.done s ?_ (Fr.no rfl)⟩
      rw [Bool.false_xor]
      exact .bl _
    · exact h.elim
  · exact h.elim
theorem neS {K : PySem.W.Frag} (hK : K = w.K) : OpS w (rNeD K) (oEq true) := by
  subst hK
  intro H G v1 v2 r1 r2 Q s rr1 rr2 h
  unfold oEq at h
  split at h
  · rename_i x y e1 e2
    split at h
    · rename_i c
      refine ⟨x, y, rr1.vw s e1 (noD_shaped c.1), rr2.vw s e2 (noD_shaped c.2), c.1, c.2, h.done s ?_ (Fr.no rfl)⟩
      rw [Bool.true_xor]
      exact .bl _
    · exact h.elim
  · exact h.elim
theorem room64 {k : Nat} {A : Around} (hr : Room k A) : A.units + 64 < cLine := by have := hr.un; omega
theorem room65 {k : Nat} {A : Around} (hr : Room k A) : A.units + 65 < cLine := by have := hr.un; omega
theorem room1 {k : Nat} {A : Around} (hr : Room k A) : A.units + 1 < cLine := by have := hr.un; omega
/-! ### is None -/
def oIsN (neg : Bool) : Op := fun a b => match b with
  | .d .none => (match a with
    | .d .none => .ok (.d (.bool (!neg)))
    | _ => .ok (.d (.bool neg)))
  | _ => .error .stuck
theorem oIsN_tame {neg : Bool} : Tame (oIsN neg) := fun a b x i h => by
  unfold oIsN at h
  split at h
  · split at h <;> cases h
  · cases h
theorem non_iff {H G : Hp} {v : V} {r : R} (rr : Rr w H G v r) : (v = .non) ↔ r = .d .none := by
  constructor
  · rintro rfl
    cases r with
    | d y => cases rr; rfl
    | l _ _ => obtain ⟨p, _, e, _⟩ := rr; cases e
    | T _ _ => obtain ⟨p, _, e, _⟩ := rr; cases e
    | M _ _ => obtain ⟨p, _, e, _⟩ := rr; cases e
    | s _ => obtain ⟨p, e, _⟩ := rr; cases e
    | z _ => obtain ⟨p, e, _⟩ := rr; cases e
    | e _ _ => obtain ⟨p, e, _⟩ := rr; cases e
    | f _ => obtain ⟨p, e, _⟩ := rr; cases e
    | o _ _ _ => obtain ⟨p, C, dx, vf, e, _⟩ := rr; cases e
    | io _ _ => obtain ⟨p, C, dx, vf, e, _⟩ := rr; cases e
    | lk _ _ => obtain ⟨_, e, _⟩ := rr; cases e
    | q => obtain ⟨_, e, _⟩ := rr; cases e
    | D _ => obtain ⟨_, _, e, _⟩ := rr; cases e
  · rintro rfl
    cases rr; rfl
theorem isNS : OpS w (fun x y H Q => y = .non ∧ Q (.bl (decide (x = .non))) H) (oIsN false) := by
  intro H G v1 v2 r1 r2 Q s rr1 rr2 h
  unfold oIsN at h
  split at h
  · cases rr2
    refine ⟨rfl, ?_⟩
    split at h
    · rw [decide_eq_true ((non_iff rr1).mpr rfl)]
      exact h.done s (.bl _) (Fr.no rfl)
    · rename_i hn
      rw [decide_eq_false (fun z => hn ((non_iff rr1).mp z))]
      exact h.done s (.bl _) (Fr.no rfl)
  · exact h.elim
theorem notNS : OpS w (fun x y H Q => y = .non ∧ Q (.bl (!decide (x = .non))) H) (oIsN true) := by
  intro H G v1 v2 r1 r2 Q s rr1 rr2 h
  unfold oIsN at h
  split at h
  · cases rr2
    refine ⟨rfl, ?_⟩
    split at h
    · rw [decide_eq_true ((non_iff rr1).mpr rfl)]
      exact h.done s (.bl _) (Fr.no rfl)
    · rename_i hn
      rw [decide_eq_false (fun z => hn ((non_iff rr1).mp z))]
      exact h.done s (.bl _) (Fr.no rfl)
  · exact h.elim
/-! ### in a list -/
def oIn (neg : Bool) : Op := fun a b => match a.view, b.sq? with
  | some x, some ys => if SeqAt.shaped x = true ∧ SeqAt.shaped (.list ys) = true then .ok (.d (.bool (xor neg (ys.any fun z => PyData.eqv z x)))) else .error .stuck
  | _, _ => .error .stuck
theorem oIn_tame {neg : Bool} : Tame (oIn neg) := fun a b x i h => by
  unfold oIn at h
  split at h
  · split at h <;> cases h
  · cases h
theorem sq_view {r : R} {xs : List PD} (h : r.sq? = some xs) : r.view = some (.list xs) := by
  cases r with
  | d y =>
    cases y with
    | list ys => simp only [R.sq?, Option.some.injEq] at h; subst h; rfl
    | _ => simp [R.sq?] at h
  | l b ys => simp only [R.sq?, Option.some.injEq] at h; subst h; rfl
  | s ns => simp only [R.sq?, Option.some.injEq] at h; subst h; rfl
  | _ => simp [R.sq?] at h
theorem inS {K : PySem.W.Frag} (hK : K = w.K) : OpS w (rInD K) (oIn false) := by
  subst hK
  intro H G v1 v2 r1 r2 Q s rr1 rr2 h
  unfold oIn at h
  split at h
  · rename_i x ys e1 e2
    split at h
    · rename_i c
      refine ⟨x, ys, rr1.vw s e1 (noD_shaped c.1), rr2.vw s (sq_view e2) (noD_shaped c.2), c.1, c.2, h.done s ?_ (Fr.no rfl)⟩
      rw [Bool.false_xor]
      exact .bl _
    · exact h.elim
  · exact h.elim
theorem notInS {K : PySem.W.Frag} (hK : K = w.K) : OpS w (fun x y H Q => ∃ d ds, Dp K H x d ∧ Dp K H y (.list ds) ∧ SeqAt.shaped d = true ∧ SeqAt.shaped (.list ds) = true ∧ Q (.bl (!ds.any fun z => PyData.eqv z d)) H) (oIn true) := by
  subst hK
  intro H G v1 v2 r1 r2 Q s rr1 rr2 h
  unfold oIn at h
  split at h
  · rename_i x ys e1 e2
    split at h
    · rename_i c
      refine ⟨x, ys, rr1.vw s e1 (noD_shaped c.1), rr2.vw s (sq_view e2) (noD_shaped c.2), c.1, c.2, h.done s ?_ (Fr.no rfl)⟩
      rw [Bool.true_xor]
      exact .bl _
    · exact h.elim
  · exact h.elim
/-! ### built-ins of one value -/
def one1 (o : R → M R) : List R → M R
  | [r] => o r
  | _ => .error .stuck
theorem one_tame {o : R → M R} (h : ∀ r x i, o r ≠ .error (.exc x i)) : TameL (one1 o) := fun a x i e => by
  unfold one1 at e
  split at e
  · exact h _ _ _ e
  · cases e
theorem oneS {r : List V → Hp → VK → Prop} {o : R → M R} (h : ∀ (H G : Hp) (v : V) (y : R) (Q : VK), Same G H → Rr w H G v y → PostO w H G (o y) Q → r [v] H Q) : CallS w r (one1 o) := by
  intro H G vs rs Q s rr hp
  cases rr with
  | nil => exact hp.elim
  | cons r1 r2 =>
    cases r2 with
    | nil => exact h H G _ _ Q s r1 hp
    | cons _ _ => exact hp.elim
def oLen : R → M R := fun r => match r with
  | .d (.str z) => if z.length ≤ big then .ok (.d (.int z.length)) else .error .stuck
  | .d (.tuple xs) => .ok (.d (.int xs.length))
  | r => match r.sq? with
    | some xs => .ok (.d (.int xs.length))
    | none => .error .stuck
theorem oLen_tame (r : R) (x : Str) (i : Option Int) : oLen r ≠ .error (.exc x i) := fun e => by
  unfold oLen at e
  split at e
  · split at e <;> cases e
  · cases e
  · split at e <;> cases e
theorem lenS {K : PySem.W.Frag} (hK : K = w.K) : CallS w (fun xs H Q => ∃ x n, xs = [x] ∧ LenV K x H n ∧ Q (.int n) H) (one1 oLen) := by
  subst hK
  refine oneS fun H G v y Q s rr h => ?_
  unfold oLen at h
  split at h
  · cases rr
    split at h
    · rename_i hz
      exact ⟨_, _, rfl, ⟨big_le hz, rfl⟩, h.done s (.int _) (Fr.no rfl)⟩
    · exact h.elim
  · cases rr with
    | tup r1 r2 => exact ⟨_, _, rfl, .inr ⟨_, SqT.of (s _ _ r1), rfl⟩, by rw [r2.length]; exact h.done s (.int _) (Fr.no rfl)⟩
  · split at h
    · rename_i xs e
      obtain ⟨p, vs, rfl, hq, hr⟩ := rr.sq s e
      exact ⟨_, _, rfl, .inl ⟨vs, hq, rfl⟩, by rw [hr.length]; exact h.done s (.int _) (Fr.no rfl)⟩
    · exact h.elim
/-- list(x) of a list or tuple -/
def oList : R → M R := fun r => match r with
  | .d (.tuple xs) => .ok (.l true xs)
  | r => match r.sq? with
    | some xs => .ok (.l true xs)
    | none => .error .stuck
theorem oList_tame (r : R) (x : Str) (i : Option Int) : oList r ≠ .error (.exc x i) := fun e => by
  unfold oList at e
  split at e
  · cases e
  · split at e <;> cases e
theorem listS {K : PySem.W.Frag} (hK : K = w.K) : CallS w (fun xs H Q => ∃ p ys, xs = [.ref p] ∧ (SqL K H p ys ∨ SqT K H p ys) ∧ ∀ l, H l = none → Q (.ref l) (upd H l (.lst ys))) (one1 oList) := by
  subst hK
  refine oneS fun H G v y Q s rr h => ?_
  unfold oList at h
  split at h
  · cases rr with
    | tup r1 r2 => exact ⟨_, _, rfl, .inr (SqT.of (s _ _ r1)), h.mk s r2⟩
  · split at h
    · rename_i xs e
      obtain ⟨p, vs, rfl, hq, hr⟩ := rr.sq s e
      exact ⟨_, _, rfl, .inl hq, h.mk s hr⟩
    · exact h.elim
/-- tuple(x) of a list -/
def oTup : R → M R := fun r => match r.sq? with
  | some xs => .ok (.d (.tuple xs))
  | none => .error .stuck
theorem oTup_tame (r : R) (x : Str) (i : Option Int) : oTup r ≠ .error (.exc x i) := fun e => by
  unfold oTup at e
  split at e <;> cases e
theorem tupS {K : PySem.W.Frag} (hK : K = w.K) : CallS w (fun xs H Q => ∃ p ys, xs = [.ref p] ∧ ((SqL K H p ys ∧ ∀ l, H l = none → Q (.ref l) (upd H l (.tup ys))) ∨ (SqT K H p ys ∧ Q (.ref p) H))) (one1 oTup) := by
  subst hK
  refine oneS fun H G v y Q s rr h => ?_
  unfold oTup at h
  split at h
  · rename_i xs e
    obtain ⟨p, vs, rfl, hq, hr⟩ := rr.sq s e
    exact ⟨_, _, rfl, .inl ⟨hq, h.mkT s hr⟩⟩
  · exact h.elim
/-- all, sum of a list -/
def oAll : R → M R := fun r => match r.sq?.bind bools? with
  | some bs => .ok (.d (.bool (bs.all id)))
  | none => .error .stuck
theorem oAll_tame (r : R) (x : Str) (i : Option Int) : oAll r ≠ .error (.exc x i) := fun e => by
  unfold oAll at e
  split at e <;> cases e
theorem allS {K : PySem.W.Frag} (hK : K = w.K) : CallS w (rAll K) (one1 oAll) := by
  subst hK
  refine oneS fun H G v y Q s rr h => ?_
  unfold oAll at h
  split at h
  · rename_i bs e
    rw [Option.bind_eq_some_iff] at e
    obtain ⟨xs, e1, e2⟩ := e
    rw [bools_eq e2] at e1
    obtain ⟨p, vs, rfl, hq, hr⟩ := rr.sq s e1
    rw [RpL.bls hr] at hq
    exact ⟨p, bs, rfl, hq, h.done s (.bl _) (Fr.no rfl)⟩
  · exact h.elim
def oSum : R → M R := fun r => match r.sq?.bind ints? with
  | some bs => .ok (.d (.int bs.sum))
  | none => .error .stuck
theorem oSum_tame (r : R) (x : Str) (i : Option Int) : oSum r ≠ .error (.exc x i) := fun e => by
  unfold oSum at e
  split at e <;> cases e
theorem sumS {K : PySem.W.Frag} (hK : K = w.K) : CallS w (rSum K) (one1 oSum) := by
  subst hK
  refine oneS fun H G v y Q s rr h => ?_
  unfold oSum at h
  split at h
  · rename_i bs e
    rw [Option.bind_eq_some_iff] at e
    obtain ⟨xs, e1, e2⟩ := e
    rw [ints_eq e2] at e1
    obtain ⟨p, vs, rfl, hq, hr⟩ := rr.sq s e1
    rw [RpL.ints hr] at hq
    exact ⟨p, bs, rfl, hq, h.done s (.int _) (Fr.no rfl)⟩
  · exact h.elim
/-- sorted, of ints; of pairs of ints -/
def leP (p q : Int × Int) : Bool := decide (p.1 < q.1) || (decide (p.1 = q.1) && decide (p.2 ≤ q.2))
def leI (p q : Int) : Bool := decide (p ≤ q)
def sortP (l : List (Int × Int)) : List (Int × Int) := l.mergeSort leP
def sortI (l : List Int) : List Int := l.mergeSort leI
theorem leP_trans (a b c : Int × Int) : leP a b → leP b c → leP a c := by
  unfold leP
  simp only [Bool.or_eq_true, Bool.and_eq_true, decide_eq_true_eq]
  omega
theorem leP_total (a b : Int × Int) : leP a b || leP b a := by
  unfold leP
  simp only [Bool.or_eq_true, Bool.and_eq_true, decide_eq_true_eq]
  omega
theorem leI_trans (a b c : Int) : leI a b → leI b c → leI a c := by
  unfold leI
  simp only [decide_eq_true_eq]
  omega
theorem leI_total (a b : Int) : leI a b || leI b a := by
  unfold leI
  simp only [Bool.or_eq_true, decide_eq_true_eq]
  omega
/-- two arrangements of one list that both rise are one -/
theorem rise_uniq {α : Type} {le : α → α → Bool} (anti : ∀ a b, le a b = true → le b a = true → a = b) : ∀ {l m : List α}, l.Perm m → l.Pairwise (fun a b => le a b = true) → m.Pairwise (fun a b => le a b = true) → l = m
  | [], m, h, _, _ => by rw [List.Perm.eq_nil h.symm]
  | x :: l, [], h, _, _ => absurd h.length_eq (by simp)
  | x :: l, y :: m, h, hl, hm => by
    have e : x = y := by
      rcases List.mem_cons.mp (h.mem_iff.mp (List.mem_cons_self (a := x) (l := l))) with e | hx
      · exact e
      · rcases List.mem_cons.mp (h.mem_iff.mpr (List.mem_cons_self (a := y) (l := m))) with e | hy
        · exact e.symm
        · exact anti x y ((List.pairwise_cons.mp hl).1 y hy) ((List.pairwise_cons.mp hm).1 x hx)
    subst e
    rw [rise_uniq anti (List.Perm.cons_inv h) (List.pairwise_cons.mp hl).2 (List.pairwise_cons.mp hm).2]
theorem leP_anti (a b : Int × Int) (h1 : leP a b = true) (h2 : leP b a = true) : a = b := by
  unfold leP at h1 h2
  simp only [Bool.or_eq_true, Bool.and_eq_true, decide_eq_true_eq] at h1 h2
  obtain ⟨a1, a2⟩ := a
  obtain ⟨b1, b2⟩ := b
  simp only at h1 h2
  have e1 : a1 = b1 := by omega
  have e2 : a2 = b2 := by omega
  rw [e1, e2]
theorem leI_anti (a b : Int) (h1 : leI a b = true) (h2 : leI b a = true) : a = b := by
  unfold leI at h1 h2
  simp only [decide_eq_true_eq] at h1 h2
  omega
theorem sortP_pw (l : List (Int × Int)) : (sortP l).Pairwise (fun a b => leP a b = true) := List.pairwise_mergeSort leP_trans leP_total l
theorem sortI_pw (l : List Int) : (sortI l).Pairwise (fun a b => leI a b = true) := List.pairwise_mergeSort leI_trans leI_total l
theorem sortP_perm (l : List (Int × Int)) : (sortP l).Perm l := List.mergeSort_perm l leP
theorem sortI_perm (l : List Int) : (sortI l).Perm l := List.mergeSort_perm l leI
def oSorted : R → M R := fun r => match r.sq? with
  | some xs => (match ints? xs with
    | some ns => .ok (.l true ((sortI ns).map .int))
    | none => (match prs? xs with
      | some ps => .ok (.l true ((sortP ps).map prD))
      | none => .error .stuck))
  | none => .error .stuck
theorem oSorted_tame (r : R) (x : Str) (i : Option Int) : oSorted r ≠ .error (.exc x i) := fun e => by
  unfold oSorted at e
  split at e
  · split at e
    · cases e
    · split at e <;> cases e
  · cases e
def rSort2 (K : PySem.W.Frag) : List V → Hp → VK → Prop := fun vs H Q => rSortedI K vs H Q ∨ rSortedPO K vs H Q
theorem CallR.or {f : Value} {r r' : List V → Hp → VK → Prop} (h : CallR X f r) (h' : CallR X f r') : CallR X f (fun xs H Q => r xs H Q ∨ r' xs H Q) := by
  intro pins s σ H xs us Q I rs q
  rcases q with q | q
  · exact h pins s σ H xs us Q I rs q
  · exact h' pins s σ H xs us Q I rs q
theorem call_sort2 : CallR X (.builtin "sorted") (rSort2 X.K) := CallR.or cr_sortedI cr_sortedPO
/-- the pair that a value stands for -/
def prV (H : Hp) : V → Int × Int
  | .ref t => match H t with
    | some (.tup [.int i, .int j]) => (i, j)
    | _ => (0, 0)
  | _ => (0, 0)
theorem prV_of {G : Hp} {v : V} {p : Int × Int} (h : Rp G v (prD p)) : ∃ t, v = .ref t ∧ G t = some (.tup [.int p.1, .int p.2]) := by
  cases h with
  | tup h1 h2 =>
    cases h2 with
    | cons r1 r2 =>
      cases r2 with
      | cons r3 r4 =>
        cases r4
        cases r1; cases r3
        exact ⟨_, rfl, h1⟩
theorem prV_eq {G : Hp} {v : V} {p : Int × Int} (h : Rp G v (prD p)) : prV G v = p := by
  obtain ⟨t, rfl, e⟩ := prV_of h
  unfold prV
  simp only [e]
theorem RpL.prs {G : Hp} : ∀ {ps : List (Int × Int)} {vs : List V}, RpL G vs (ps.map prD) → vs.map (prV G) = ps ∧ ∀ v ∈ vs, Rp G v (prD (prV G v))
  | [], _, h => by cases h; exact ⟨rfl, fun v hv => by cases hv⟩
  | p :: ps, _, h => by
    cases h with
    | cons h1 h2 =>
      obtain ⟨a, b⟩ := RpL.prs h2
      refine ⟨by rw [List.map_cons, prV_eq h1, a], fun v hv => ?_⟩
      rcases List.mem_cons.mp hv with rfl | hv
      · rw [prV_eq h1]; exact h1
      · exact b v hv
theorem RpL.ofPrs {G : Hp} : ∀ {vs : List V}, (∀ v ∈ vs, Rp G v (prD (prV G v))) → RpL G vs ((vs.map (prV G)).map prD)
  | [], _ => .nil
  | v :: vs, h => .cons (h v List.mem_cons_self) (RpL.ofPrs fun u hu => h u (List.mem_cons_of_mem _ hu))
theorem sortedS {K : PySem.W.Frag} (hK : K = w.K) : CallS w (rSort2 K) (one1 oSorted) := by
  subst hK
  refine oneS fun H G v y Q s rr h => ?_
  unfold oSorted at h
  split at h
  · rename_i xs e1
    split at h
    · rename_i ns e2
      rw [ints_eq e2] at e1
      obtain ⟨p, vs, rfl, hq, hr⟩ := rr.sq s e1
      rw [RpL.ints hr] at hq
      refine .inl ⟨p, ns, rfl, hq, fun ns' q hp hs hn => ?_⟩
      have e : ns' = sortI ns := rise_uniq leI_anti (hp.trans (sortI_perm ns).symm) (hs.imp fun h => by simpa [leI] using h) (sortI_pw ns)
      rw [e]
      exact h.mk s (RpL.ofInts _) q hn
    · split at h
      · rename_i ps e3
        rw [prs_eq e3] at e1
        obtain ⟨p, vs, rfl, hq, hr⟩ := rr.sq s e1
        obtain ⟨ev, hv⟩ := RpL.prs hr
        refine .inr ⟨p, vs, prV G, rfl, hq, fun x hx => ?_, fun ys q hs hb hn => ?_⟩
        · obtain ⟨t, e, ht⟩ := prV_of (hv x hx)
          exact ⟨t, e, s _ _ ht⟩
        · have hperm : ys.Perm vs := hb.perm
          have hy : ∀ v ∈ ys, Rp G v (prD (prV G v)) := fun v h => hv v (hperm.mem_iff.mp h)
          have e : ys.map (prV G) = sortP ps := by
            refine rise_uniq leP_anti ((hperm.map (prV G)).trans (by rw [ev]; exact (sortP_perm ps).symm)) ?_ (sortP_pw ps)
            refine List.pairwise_map.mpr (hs.imp fun {a b} h => ?_)
            have h : SrtO.lexB (prV G b) (prV G a) = false := h
            unfold SrtO.lexB at h
            unfold leP
            simp only [Bool.or_eq_true, Bool.and_eq_true, decide_eq_true_eq]
            split at h
            · have := of_decide_eq_false h
              omega
            · have := of_decide_eq_false h
              omega
          have hz := RpL.ofPrs hy
          rw [e] at hz
          exact h.mk s hz q hn
      · exact h.elim
  · exact h.elim
end
end Vs
end
section
namespace Vs
open PySem PySem.Spec PyProof.Rows L2

variable {w : Wd} {W : WX}
section
variable {X : Cx} {a b c e : Expr} {es : List Expr} {pos p : Pos} {fa fb fc : Sl → M R}
/-! ### list(range(..)) -/
def lrg (i j : Int) : M R := if LimP i ∧ LimP j ∧ (j - i).toNat ≤ big then .ok (.l true (rngD i (j - i).toNat)) else .error .stuck
theorem RpL.rng {G : Hp} (i : Int) : ∀ n : Nat, RpL G ((List.range n).map fun k => V.int (i + (k : Nat))) (rngD i n) := fun n => by
  have : ∀ l : List Nat, RpL G (l.map fun k => V.int (i + (k : Nat))) (l.map fun (k : Nat) => PyData.int (i + (k : Int))) := by
    intro l
    induction l with
    | nil => exact .nil
    | cons k l ih => exact .cons (.int _) ih
  exact this (List.range n)
theorem lrg_ok {H G : Hp} {i j : Int} {Q : VK} {σ : L2.St} (s : Same G H) (h : PostE w W σ H G (lrg i j) Q) : RgOk i j ∧ ∀ q, H q = none → Q (.ref q) (upd H q (.lst (rgV i j))) := by
  unfold lrg at h
  split at h
  · rename_i c
    have a1 := lim_62 (limP_iff.mp c.1)
    have a2 := lim_62 (limP_iff.mp c.2.1)
    have a3 : (j - i).toNat ≤ 100000 := c.2.2
    exact ⟨⟨a1.1, a1.2, a2.1, a2.2, Nat.le_trans a3 (by decide)⟩, PostO.mk (h.o (fun _ _ z => by cases z)) s (RpL.rng i _)⟩
  · exact h.elim
def eLR2 (fa fb : Sl → M R) : Sl → M R := fun env => (fa env).bind fun x => (fb env).bind fun y => (ti x).bind fun i => (ti y).bind fun j => lrg i j
def eLR1 (fa : Sl → M R) : Sl → M R := fun env => (fa env).bind fun x => (ti x).bind fun i => lrg 0 i
theorem ti_ok {r : R} {v : V} {H G : Hp} {σ : L2.St} {k : Int → M R} {Q : VK} (rr : Rr w H G v r) (h : PostE w W σ H G ((ti r).bind k) Q) : ∃ i, v = .int i ∧ r = .d (.int i) ∧ PostE w W σ H G (k i) Q := by
  cases r with
  | d y =>
    cases y with
    | int b => cases rr; exact ⟨b, rfl, rfl, h⟩
    | _ => exact h.elim
  | _ => exact h.elim
theorem xe_lr2 {p1 p2 q1 q2 : Pos} (ok : w.Ok) (hc : X.calm = true) (hg : Gl X "list") (hm : X.mg "list" = none) (hg2 : Gl X "range") (hm2 : X.mg "range" = none) (ha : PE X a (rdE w W fa)) (hb : PE X b (rdE w W fb))
    (na : starEach [a, b] X.env = (false, eval a X.env) :: starEach [b] X.env := by rfl) (nb : starEach [b] X.env = (false, eval b X.env) :: starEach [] X.env := by rfl) (hp : (backTo q1 (starEach [b] X.env)).any (·.1) = false := by rfl)
    (nc : starEach [.Call (.Name "range" p2) [a, b] [] q1] X.env = (false, eval (.Call (.Name "range" p2) [a, b] [] q1) X.env) :: starEach [] X.env := by rfl) :
    PE X (.Call (.Name "list" p1) [.Call (.Name "range" p2) [a, b] [] q1] [] q2) (rdE w W (eLR2 fa fb)) := by
  refine PEi (pe_listRg hc hg hm (prg_2 hg2 hm2 ha hb na nb hp) nc) fun σ H Q h => ?_
  obtain ⟨H0, B, env, G, g, x, h⟩ := h
  refine rdE_bind ok g x h fun r1 v1 H1 G1 g1 rr1 _ g01 x1 h1 => ?_
  refine rdE_bind ok g01 x1 h1 fun r2 v2 H2 G2 g2 rr2 _ g02 x2 h2 => ?_
  obtain ⟨i, rfl, rfl, h2⟩ := ti_ok (rr1.mono ok g2) h2
  obtain ⟨j, rfl, rfl, h2⟩ := ti_ok rr2 h2
  exact ⟨i, j, rfl, rfl, lrg_ok g2.s h2⟩
theorem xe_lr1 {p1 p2 q1 q2 : Pos} (ok : w.Ok) (hc : X.calm = true) (hg : Gl X "list") (hm : X.mg "list" = none) (hg2 : Gl X "range") (hm2 : X.mg "range" = none) (ha : PE X a (rdE w W fa))
    (na : starEach [a] X.env = (false, eval a X.env) :: starEach [] X.env := by rfl)
    (nc : starEach [.Call (.Name "range" p2) [a] [] q1] X.env = (false, eval (.Call (.Name "range" p2) [a] [] q1) X.env) :: starEach [] X.env := by rfl) :
    PE X (.Call (.Name "list" p1) [.Call (.Name "range" p2) [a] [] q1] [] q2) (rdE w W (eLR1 fa)) := by
  refine PEi (pe_listRg hc hg hm (prg_1 hg2 hm2 ha na) nc) fun σ H Q h => ?_
  obtain ⟨H0, B, env, G, g, x, h⟩ := h
  refine rdE_bind ok g x h fun r1 v1 H1 G1 g1 rr1 _ g01 x1 h1 => ?_
  obtain ⟨i, rfl, rfl, h1⟩ := ti_ok rr1 h1
  exact ⟨i, rfl, lrg_ok g1.s h1⟩
/-! ### isinstance of a built-in type -/
def tyN : R → Option String
  | .d .none => some "NoneType"
  | .d (.bool _) => some "bool"
  | .d (.int _) => some "int"
  | .d (.str _) => some "str"
  | .d (.list _) => some "list"
  | .d (.tuple _) => some "tuple"
  | .d (.dict []) => some "dict"
  | .l _ _ => some "list"
  | .T _ _ => some "dict"
  | .M _ _ => some "dict"
  | .q => some "dict"
  | _ => none
theorem tyN_ok {K : PySem.W.Frag} {H G : Hp} (s : Same G H) {r : R} {v : V} {n : String} (h : tyN r = some n) (rr : Rr w H G v r) : TyX K H v (.type n) := by
  cases r with
  | d y =>
    cases y with
    | none => cases rr; cases h; exact .base .non
    | bool _ => cases rr; cases h; exact .base (.bl _)
    | int _ => cases rr; cases h; exact .base (.int _)
    | str _ => cases rr; cases h; exact .base (.str _)
    | list _ => cases h; cases rr with
      | lst h1 _ => exact .base (.lst (s _ _ h1))
    | tuple _ => cases h; cases rr with
      | tup h1 _ => exact .base (.tup (s _ _ h1))
    | dict kvs => cases kvs with
      | nil => cases h; cases rr with
        | emp h1 => exact .base (.dK (s _ _ h1))
      | cons _ _ => cases h
  | l _ _ => obtain ⟨p, vs, rfl, _, h1, _⟩ := rr; cases h; exact .base (.lst h1)
  | T _ _ => obtain ⟨p, vs, rfl, _, h1, _⟩ := rr; cases h; exact .base (.dT h1)
  | M _ _ => obtain ⟨p, vs, rfl, _, h1, _⟩ := rr; cases h; exact .base (.dK h1)
  | q => obtain ⟨p, rfl, h1⟩ := rr; cases h; exact .base (.dK (s _ _ h1))
  | _ => cases h
def isiB (a b : String) : Bool := decide (a = b) || (decide (a = "bool") && decide (b = "int"))
def tyNs : List String := ["NoneType", "bool", "int", "str", "list", "tuple", "dict"]
def tyTs : List String := ["int", "bool", "str", "list", "tuple"]
theorem kit_all : (tyNs.all fun a => tyTs.all fun b => decide (kitB a b = some (isiB a b))) = true := by decide +kernel
theorem tyN_mem {r : R} {n : String} (h : tyN r = some n) : n ∈ tyNs := by
  cases r with
  | d y => cases y with
    | dict kvs => cases kvs with
      | nil => cases h; decide
      | cons _ _ => cases h
    | _ => cases h <;> decide
  | _ => cases h <;> decide
def oIsi (T : String) : R → M R := fun r => match tyN r with
  | some n => if T ∈ tyTs then .ok (.d (.bool (isiB n T))) else .error .stuck
  | none => .error .stuck
theorem xe_isi (T : String) {x : Str} {pT : Pos} (ok : w.Ok) (hK : X.K = w.K) (hg : Gl X "isinstance") (hm : X.mg "isinstance" = none) (hgT : Gl X x) (hmT : X.mg x = none) (hv : bootBuiltins x = some (.type T)) (he : PE X e (rdE w W fa))
    (hvi : bootBuiltins "isinstance" = some (.builtin "isinstance") := by rfl)
    (hn : x ≠ "__name__" := by decide) (hd : (x == ("__debug__" : Str)) = false := by decide)
    (hs1 : starEach [e, .Name x pT] X.env = (false, eval e X.env) :: starEach [.Name x pT] X.env := by rfl) (hs2 : starEach [.Name x pT] X.env = (false, eval (.Name x pT) X.env) :: starEach [] X.env := by rfl)
    (hpl : (backTo pos (starEach [.Name x pT] X.env)).any (·.1) = false := by rfl) : PE X (.Call (.Name "isinstance" p) [e, .Name x pT] [] pos) (rdE w W (eUn (oIsi T) fa)) := by
  refine PEi (pe_callB call_isi hg hm hvi (pa_cons he (pa_cons (pe_bltn (v := .ty T) hgT hmT hv rfl hn hd) pa_nil hs2) hs1) (he := hs1) (hpl := hpl)) fun σ H Q h => ?_
  obtain ⟨H0, B, env, G, g, x, h⟩ := h
  refine rdE_bind ok g x h fun r v H1 G1 g1 rr _ g01 x1 h1 => ?_
  unfold oIsi at h1
  split at h1
  · rename_i n e1
    split at h1
    · rename_i hT
      refine ⟨v, .ty T, .type n, .type T, isiB n T, rfl, .ty T, tyN_ok g1.s e1 rr, kit_ty ?_, h1.done g1.s (.bl _) (Fr.no rfl)⟩
      have := List.all_eq_true.mp (List.all_eq_true.mp kit_all n (tyN_mem e1)) T hT
      exact of_decide_eq_true this
    · exact h1.elim
  · exact h1.elim
/-! ### len(set(ints)), no int twice -/
def oLset : R → M R := fun r => match r.sq?.bind ints? with
  | some ns => if ns.Nodup ∧ ns.length ≤ 4000 then .ok (.d (.int ns.length)) else .error .stuck
  | none => .error .stuck
theorem xe_lenSet {p1 p2 q1 q2 : Pos} (ok : w.Ok) (hK : X.K = w.K) (hc : X.calm = true) (hg : Gl X "len") (hm : X.mg "len" = none) (hg2 : Gl X "set") (hm2 : X.mg "set" = none) (ha : PE X a (rdE w W fa))
    (na : starEach [a] X.env = (false, eval a X.env) :: starEach [] X.env := by rfl) : PE X (.Call (.Name "len" p1) [.Call (.Name "set" p2) [a] [] q1] [] q2) (rdE w W (eUn oLset fa)) := by
  refine PEi (RZ.pe_lenSetI hg hm hg2 hm2 ha hc na) fun σ H Q h => ?_
  obtain ⟨H0, B, env, G, g, x, h⟩ := h
  refine rdE_bind ok g x h fun r v H1 G1 g1 rr _ g01 x1 h1 => ?_
  unfold oLset at h1
  split at h1
  · rename_i ns e1
    split at h1
    · rename_i c
      rw [Option.bind_eq_some_iff] at e1
      obtain ⟨xs, e2, e3⟩ := e1
      rw [ints_eq e3] at e2
      obtain ⟨q, vs, rfl, hq, hr⟩ := rr.sq g1.s e2
      rw [RpL.ints hr] at hq
      rw [hK]
      exact ⟨q, ns, rfl, hq, c.1, c.2, h1.done g1.s (.int _) (Fr.no rfl)⟩
    · exact h1.elim
  · exact h1.elim
end
end Vs
end
section
namespace Vs
open PySem PySem.Spec PyProof.Rows L2

variable {w : Wd} {W : WX}
structure HasDef (w : Wd) (x : Str) (st : Stmt) (ps : List Str) : Prop where
  ex : ∃ f fd, FunD w.K x x (defArgs st) (defBody st) (defScope st) [] [] f fd ∧ w.mg x = some (.ref f) ∧ Binds w.K fd ps []
section
variable {X : Cx} {a b c e : Expr} {es : List Expr} {pos p : Pos} {fa fb fc : Sl → M R}
theorem xe_gI {x : Str} {i : Int} {pos : Pos} (hg : Gl X x) (hm : ∃ t, X.mg x = some (.int i t)) (hd : (x == ("__debug__" : Str)) = false := by decide) : PE X (.Name x pos) (rdE w W (eC (.int i))) := by
  obtain ⟨t, h⟩ := hm
  exact xe_globI hg h hd
theorem xe_gS {x y : Str} {pos : Pos} (hg : Gl X x) (hm : ∃ t, X.mg x = some (.str y t)) (hd : (x == ("__debug__" : Str)) = false := by decide) : PE X (.Name x pos) (rdE w W (eC (.str y))) := by
  obtain ⟨t, h⟩ := hm
  exact xe_globS hg h hd
/-! ### for x in (a, b, ..): x.append(e) -/
def tVars : List Nat → TA
  | [] => tNil
  | i :: r => tCons (tVar i) (tVars r)
def fApp (d : PD) : List Nat → Sl → M Sl
  | [], env => .ok env
  | j :: js, env => (appS j d env).bind (fApp d js)
def sFApp (x : Nat) (js : List Nat) (d : PD) : Sl → M Oc := fun env => if (js.all fun j => isL j env) = true ∧ x ∉ js ∧ x < env.length ∧ js.length ≤ big then nxS (fApp d js (env.set x none)) else .error .stuck
theorem vars_at {σ : L2.St} {H : Hp} : ∀ {js : List Nat} {ps : List Addr} {Q : List V → Hp → Prop}, (∀ (k j : Nat), js[k]? = some j → ∃ p, ps[k]? = some p ∧ σ[j]? = some (some (V.ref p))) → ps.length = js.length → Q (ps.map V.ref) H → tVars js σ H Q
  | [], [], _, _, _, q => q
  | [], _ :: _, _, _, h, _ => by cases h
  | _ :: _, [], _, _, h, _ => by cases h
  | j :: js, p :: ps, Q, h, hl, q => by
    obtain ⟨p', e, hv⟩ := h 0 j rfl
    cases e
    exact ⟨_, hv, vars_at (js := js) (ps := ps) (fun k i e => h (k + 1) i e) (by simpa using hl) q⟩
theorem app1 {H0 : Hp} {env : Sl} {σ : L2.St} {H G B : Hp} {j : Nat} {d : PD} {v : V} {env' : Sl} (x : Sim w H0 env σ H G) (g : Grow H0 B H G) (rd : Rp G v d) (h : appS j d env = .ok env') {p : Addr} (hp : σ[j]? = some (some (.ref p))) :
    ∃ vs, H p = some (.lst vs) ∧ vs.length < sizeLine ∧ Sim w H0 env' σ (upd H p (.lst (vs ++ [v]))) G ∧ Grow H0 B (upd H p (.lst (vs ++ [v]))) G := by
  unfold appS at h
  split at h
  · rename_i b xs e
    split at h
    · rename_i hz
      cases h
      obtain ⟨q, hv, n0, nG, rr, gw, wr⟩ := x.write e rfl
      rw [hp] at hv
      cases hv
      obtain ⟨q', vs, e2, _, h1, h2⟩ := rr
      cases e2
      exact ⟨vs, h1, by rw [h2.length]; exact Nat.lt_of_lt_of_le hz (by decide), wr _ (.l false (xs ++ [d])) rfl rfl ⟨p, vs ++ [v], rfl, nG, upd_same, h2.append (RpL.one rd)⟩, gw B g _⟩
    · cases h
  · cases h
theorem fApp_get {d : PD} : ∀ {js : List Nat} {env env' : Sl} {k j : Nat}, fApp d js env = .ok env' → js[k]? = some j → ∃ e1 e2, fApp d (js.take k) env = .ok e1 ∧ appS j d e1 = .ok e2 ∧ fApp d (js.drop (k + 1)) e2 = .ok env' ∧ fApp d (js.take (k + 1)) env = .ok e2
  | [], _, _, k, j, _, e => by simp at e
  | i :: js, env, env', 0, j, h, e => by
    simp at e
    subst e
    simp only [fApp] at h
    cases e1 : appS i d env with
    | error er => rw [e1] at h; cases h
    | ok e2 =>
      rw [e1] at h
      have h : fApp d js e2 = .ok env' := h
      refine ⟨env, e2, rfl, e1, h, ?_⟩
      simp only [List.take_succ_cons, List.take_zero, fApp]
      rw [e1]
      rfl
  | i :: js, env, env', k + 1, j, h, e => by
    simp only [fApp] at h
    cases e1 : appS i d env with
    | error er => rw [e1] at h; cases h
    | ok e2 =>
      rw [e1] at h
      obtain ⟨e3, e4, a1, a2, a3, a4⟩ := fApp_get (js := js) (k := k) (j := j) (show fApp d js e2 = .ok env' from h) (by simpa using e)
      refine ⟨e3, e4, ?_, a2, by simpa using a3, ?_⟩
      · rw [List.take_succ_cons]
        simp only [fApp]
        rw [e1]
        exact a1
      · rw [List.take_succ_cons]
        simp only [fApp]
        rw [e1]
        exact a4
theorem xs_fapp (x : Nat) (js : List Nat) {xn : Str} {px pt p1 pe apos cpos ep fp : Pos} {kt : Nat} {i : Int} {ji : Nat} (ok : w.Ok) (hK : X.K = w.K) (hp : PassesOwn (model X.prog X.w) X.A X.env X.xe) (hc : X.calm = true) (hN : X.N.Nodup) (hi : X.N[x]? = some xn) (hx : Loc X.env.scope xn)
    (ha : PA X es (tVars js)) (hv : Vis X.env.scope xn) (hd1 : (xn == ("__debug__" : Str)) = false := by decide) (hcd : (xn == ("__classdict__" : Str)) = false := by decide)
    (hf : X.fn xn = true ∨ X.env.scope.names.lookup xn = some .local := by first | exact .inl rfl | exact .inr rfl | assumption)
    (hsw : swapsWith (.Call (.Attribute (.Name xn p1) "append" apos) [.Constant (.int i) ji pe] [] cpos) none ep.line X.env = pure false := by rfl)
    (hbase : attributeBase (.Name xn p1) "append" X.env (eval (.Name xn p1) X.env) = eval (.Name xn p1) X.env := by rfl)
    (hfew : ((backTo cpos (starEach (.Constant (.int i) ji pe :: []) X.env)).all (fun x => !x.1) && (backToKw cpos (keywordEach [] X.env)).all (fun x => x.1.isSome)
      && decide (([.Constant (.int i) ji pe] : List Expr).length + ([] : List Keyword).length + (if ([] : List Keyword).isEmpty then 0 else 1) < 30)) = true := by rfl)
    (hline : (apos.endLine == cpos.line) = true := by rfl) (hs : starEach (.Constant (.int i) ji pe :: []) X.env = (false, eval (.Constant (.int i) ji pe) X.env) :: starEach [] X.env := by rfl) (hplain : (backTo cpos (starEach [] X.env)).any (·.1) = false := by rfl)
    (hfs : ∀ y, foldedSetIterable (.Tuple es kt pt) X.env y = pure y := by intro _; rfl) :
    PS X (.For (.Name xn px) (.Tuple es kt pt) [.Expr (.Call (.Attribute (.Name xn p1) "append" apos) [.Constant (.int i) ji pe] [] cpos) ep] [] fp) (rdS w W (sFApp x js (.int i))) := by
  refine PSi (ps_for hp hc (pi_tup (pe_tup ha)) (pg_name hN hi hx hf) (pss_one (ps_expr (pe_bm PySem.F.plainAttrs_list PySem.F.slot_list_append PySem.F.type_list_append mt_append (pe_var hi hv hd1 hcd) (pa_cons pe_int pa_nil hs) hbase hfew hline hs hplain) hsw)) hfs) fun D σ H h => ?_
  obtain ⟨H0, B, env, G, g, sx, h⟩ := h
  unfold sFApp at h
  split at h
  · rename_i c
    obtain ⟨c1, c2, c3, c4⟩ := c
    cases e9 : fApp (.int i) js (env.set x none) with
    | error er =>
      rw [e9] at h
      have hs : ∀ er, fApp (.int i) js (env.set x none) = .error er → er = .stuck := by
        intro er
        generalize env.set x none = en
        clear h e9 c1 c2 c3 c4 ha
        induction js generalizing en with
        | nil => intro q; cases q
        | cons j js ih =>
          intro q
          simp only [fApp] at q
          cases e1 : appS j (.int i) en with
          | error er => rw [e1] at q; cases q; exact appS_err _ e1
          | ok e2 => rw [e1] at q; exact ih e2 q
      rw [hs er e9] at h
      exact (h []).elim
    | ok env' =>
      rw [e9] at h
      -- the lists' places
      have hps : ∃ ps : List Addr, ps.length = js.length ∧ ∀ (k j : Nat), js[k]? = some j → ∃ p, ps[k]? = some p ∧ σ[j]? = some (some (V.ref p)) := by
        clear h e9 c2 c3 c4 ha
        induction js with
        | nil => exact ⟨[], rfl, fun k j e => by simp at e⟩
        | cons j js ih =>
          simp only [List.all_cons, Bool.and_eq_true] at c1
          obtain ⟨ps, hl, hq⟩ := ih c1.2
          obtain ⟨b, xs, e⟩ := isL_some c1.1
          obtain ⟨p, hv, _⟩ := sx.write e rfl
          refine ⟨p :: ps, by simp [hl], fun k i e => ?_⟩
          cases k with
          | zero => simp at e; subst e; exact ⟨p, rfl, hv⟩
          | succ k => obtain ⟨q, a, b⟩ := hq k i (by simpa using e); exact ⟨q, by simpa using a, b⟩
      obtain ⟨ps, hl, hq⟩ := hps
      refine vars_at (ps := ps) hq hl ⟨by rw [List.length_map, hl]; exact big_le c4, fun T hT => ⟨T, rfl, ⟨_, SqT.of upd_same⟩, ?_⟩⟩
      have sx1 : Sim w H0 env σ (upd H T (.tup (ps.map V.ref))) G := sx.grow ok (Grow.own g.s hT)
      have g1 : Grow H0 B (upd H T (.tup (ps.map V.ref))) G := g.trans (Grow.own g.s hT)
      refine for_tup (K := X.K) (a := T) (xs := ps.map V.ref) (fun k σ' H' => ∃ env1, fApp (.int i) (js.take k) (env.set x none) = .ok env1 ∧ Sim w H0 env1 σ' H' G ∧ Grow H0 B H' G ∧ H' T = some (.tup (ps.map V.ref)) ∧ σ'.length = σ.length ∧ ∀ j, j ≠ x → σ'[j]? = σ[j]?)
        ⟨env.set x none, by rw [List.take_zero]; rfl, ?_, g1, upd_same, rfl, fun _ _ => rfl⟩ (fun k σ' H' _ ⟨_, _, _, _, e, _, _⟩ => SqT.of e) ?_ ?_
      · have q := sx1.forget (i := x) (o := σ[x]?.join)
        have e : σ.set x (σ[x]?.join) = σ := by
          apply List.ext_getElem?
          intro n
          by_cases hn : n = x
          · subst hn
            by_cases hl : n < σ.length
            · rw [List.getElem?_set_self hl, List.getElem?_eq_getElem hl]; rfl
            · rw [List.getElem?_eq_none (by simpa using hl), List.getElem?_eq_none (by simpa using hl)]
          · rw [List.getElem?_set_ne (Ne.symm hn)]
        rw [e] at q
        exact q
      · rintro k v σ' H' hk ⟨env1, e1, sx2, g2, hT2, hln, hσ⟩
        rw [List.getElem?_map] at hk
        cases ek : ps[k]? with
        | none => rw [ek] at hk; cases hk
        | some p =>
          rw [ek] at hk
          cases hk
          have hk' : k < js.length := by rw [← hl]; exact (List.getElem?_eq_some_iff.mp ek).1
          have ej : js[k]? = some js[k] := List.getElem?_eq_getElem hk'
          obtain ⟨p', ep', hp'⟩ := hq k _ ej
          rw [ek] at ep'
          cases ep'
          obtain ⟨e3, e4, a1, a2, a3, a4⟩ := fApp_get e9 ej
          rw [e1] at a1
          cases a1
          have hjx : js[k] ≠ x := fun z => c2 (by rw [← z]; exact List.getElem_mem hk')
          have sx3 : Sim w H0 env1 (σ'.set x (some (V.ref p))) H' G := by
            have hx0 : env1[x]? = some none ∨ env1.length ≤ x := by
              have aux : ∀ {ls : List Nat} {en e5 : Sl}, x ∉ ls → (en[x]? = some none ∨ en.length ≤ x) → fApp (.int i) ls en = .ok e5 → (e5[x]? = some none ∨ e5.length ≤ x) := by
                intro ls
                induction ls with
                | nil => intro en e5 _ q r; cases r; exact q
                | cons l ls ih =>
                  intro en e5 hn q r
                  simp only [List.mem_cons, not_or] at hn
                  simp only [fApp] at r
                  cases e6 : appS l (.int i) en with
                  | error er => rw [e6] at r; cases r
                  | ok e7 =>
                    rw [e6] at r
                    refine ih hn.2 ?_ r
                    unfold appS at e6
                    split at e6
                    · split at e6
                      · cases e6
                        rw [List.getElem?_set_ne (Ne.symm hn.1), List.length_set]
                        exact q
                      · cases e6
                    · cases e6
              refine aux (ls := js.take k) (fun hm => c2 (List.mem_of_mem_take hm)) ?_ e1
              by_cases hlx : x < env.length
              · left; rw [List.getElem?_set_self hlx]
              · right; simpa using hlx
            have q := sx2.forget (i := x) (o := some (V.ref p))
            have e : env1.set x none = env1 := by
              apply List.ext_getElem?
              intro n
              by_cases hn : n = x
              · subst hn
                rcases hx0 with z | z
                · rw [List.getElem?_set_self (List.getElem?_eq_some_iff.mp z).1, z]
                · rw [List.getElem?_eq_none (by simpa using z), List.getElem?_eq_none (by simpa using z)]
              · rw [List.getElem?_set_ne (Ne.symm hn)]
            rw [e] at q
            exact q
          have hxl : x < σ'.length := by
            rw [hln, ← sx.len]
            exact c3
          have hpj : (σ'.set x (some (V.ref p)))[js[k]]? = some (some (.ref p)) := by
            rw [List.getElem?_set_ne (Ne.symm hjx), hσ _ hjx]
            exact hp'
          obtain ⟨vs, h1, h2, h3, h4⟩ := app1 sx3 g2 (.int i) a2 hpj
          refine ⟨V.ref p, List.getElem?_set_self hxl, .inl ⟨rfl, vs, SqL.of h1⟩, p, vs, .int i, rfl, rfl, h1, h2, e4, a4, h3, h4, ?_, by rw [List.length_set]; exact hln, fun j hj => ?_⟩
          · rw [upd_ne (fun z => by rw [z, h1] at hT2; cases hT2)]
            exact hT2
          · rw [List.getElem?_set_ne (Ne.symm hj)]
            exact hσ j hj
      · rintro σ' H' ⟨env1, e1, sx2, g2, hT2, hln, hσ⟩
        rw [List.length_map, hl, List.take_length, e9] at e1
        cases e1
        exact h σ' H' G g2 (Same.refl G) sx2
  · exact (h []).elim
end
end Vs
end
section
namespace Vs
open PySem PySem.Spec PyProof.Rows L2
/-! ### the ends of a law -/
theorem xc_of {w : Wd} {x : Str} {C : Addr} (h1 : w.mg x = some (.ref C)) (h2 : PySem.W.excIn w.K C He.veBase "ValueError.__new__" = true ∧ PySem.W.keepIn w.K (.ref C) = true ∧ PySem.W.subIn w.K (.ref C) (.type "BaseException") = some true ∧ PySem.W.typeIn w.K (.ref C) = some (.type "type")) : Xc w x :=
  ⟨C, h1, h2.1, h2.2.1, h2.2.2.1, h2.2.2.2⟩
abbrev CXE : CXT := fun a b c d e f => ∃ (P : Program) (w : World), L2.CX P w a b c d e f
theorem no_exc {H : Hp} {s : Shared} {e : Value} {s' : Shared} (h : CXE [] H s (fun _ _ _ => False) e s') : False := by
  obtain ⟨P, w, h⟩ := h
  obtain ⟨_, _, _, _, _, _, _, _, _, _, _, _, z⟩ := h
  exact z
theorem fn_cx {P : Program} {wd : World} {K : PySem.W.Frag} {mg : Str → Option Value} {base : Heap} {k : Nat} {f : Addr} {fd : FuncData} {ps : List Str} {sp : Sp} (F : FnOk P wd K mg base (L2.CX P wd) k f fd ps sp) : FnOk P wd K mg base CXE k f fd ps sp :=
  ⟨F.len, fun A outer s H args us vs Q E hr he hb hv hs => codeAny_mono (F.run A outer s H args us vs Q E hr he hb hv hs) fun r s' q => by
    cases r with
    | error e => exact ⟨P, wd, q⟩
    | ok fl => cases fl <;> exact q⟩
theorem law_sp {w : Wd} {m : List R → M R} (M : ∀ ns : List Int, ns.length ≤ 63 → m [.s ns] = .ok (.d (.bool true))) {H : Hp} {a : Addr} {ns : List Int} (hl : ns.length ≤ 63) (hS : SqL w.K H a (ns.map V.int)) :
    spM w 1 m [.ref a] H (fun v _ => v = .bl true) fun _ _ _ => False := by
  refine ⟨rfl, H, [.s ns], Same.refl H, .cons ⟨a, rfl, hS⟩ .nil, fun r hr => ?_, ?_⟩
  · rcases List.mem_cons.mp hr with rfl | hr
    · rfl
    · cases hr
  · rw [M ns hl]
    exact fun v H' G' _ rr _ => by cases rr; rfl
end Vs
end
section
namespace Vs
open PySem PySem.Spec PyProof.Rows L2
/-! ### reckoning with plain data: the words' equations -/
@[simp] theorem bind_ok {α β : Type} (a : α) (f : α → M β) : Except.bind (.ok a : M α) f = f a := rfl
@[simp] theorem bind_er {α β : Type} (e : Er) (f : α → M β) : Except.bind (.error e : M α) f = .error e := rfl
@[simp] theorem quiet_ok {α : Type} (a : α) : quiet (.ok a : M α) = .ok a := rfl
theorem eVar_at {i : Nat} {env : Sl} {r : R} (h : env[i]? = some (some r)) : eVar i env = .ok r := by unfold eVar; rw [h]
theorem rVar_at {i : Nat} {env : Sl} {r : R} (h : env[i]? = some (some r)) : rVar i env = .ok r.back := by unfold rVar; rw [h]
@[simp] theorem eVar_0 (r : R) (e : Sl) : eVar 0 (some r :: e) = .ok r := rfl
@[simp] theorem eVar_s (n : Nat) (o : Option R) (e : Sl) : eVar (n + 1) (o :: e) = eVar n e := rfl
@[simp] theorem rVar_0 (r : R) (e : Sl) : rVar 0 (some r :: e) = .ok r.back := rfl
@[simp] theorem rVar_s (n : Nat) (o : Option R) (e : Sl) : rVar (n + 1) (o :: e) = rVar n e := rfl
@[simp] theorem eC_eq (d : PD) (e : Sl) : eC d e = .ok (.d d) := rfl
@[simp] theorem eOp_eq (o : Op) (f g : Sl → M R) (e : Sl) : eOp o f g e = (f e).bind fun x => (g e).bind fun y => o x y := rfl
@[simp] theorem eUn_eq (o : R → M R) (f : Sl → M R) (e : Sl) : eUn o f e = (f e).bind o := rfl
@[simp] theorem tV_eq (f : Sl → M R) (e : Sl) : tV f e = (f e).bind bo := rfl
@[simp] theorem bo_eq (b : Bool) : bo (.d (.bool b)) = .ok b := rfl
@[simp] theorem ti_eq (i : Int) : ti (.d (.int i)) = .ok i := rfl
@[simp] theorem tAn_eq (f g : Sl → M Bool) (e : Sl) : tAn f g e = (f e).bind fun b => if b then g e else .ok false := rfl
@[simp] theorem tOrr_eq (f g : Sl → M Bool) (e : Sl) : tOrr f g e = (f e).bind fun b => if b then .ok true else g e := rfl
@[simp] theorem tNo_eq (f : Sl → M Bool) (e : Sl) : tNo f e = (f e).bind fun b => .ok (!b) := rfl
@[simp] theorem tTrue_eq (e : Sl) : tTrue e = .ok true := rfl
@[simp] theorem eAn_eq (f g : Sl → M R) (e : Sl) : eAn f g e = (f e).bind fun r => (bo r).bind fun b => if b then g e else .ok (.d (.bool false)) := rfl
@[simp] theorem eOr_eq (f g : Sl → M R) (e : Sl) : eOr f g e = (f e).bind fun r => (bo r).bind fun b => if b then .ok (.d (.bool true)) else g e := rfl
@[simp] theorem eNo_eq (f : Sl → M R) (e : Sl) : eNo f e = (f e).bind fun r => (bo r).bind fun b => .ok (.d (.bool !b)) := rfl
@[simp] theorem eIf_eq (t : Sl → M Bool) (f g : Sl → M R) (e : Sl) : eIf t f g e = (t e).bind fun b => if b then f e else g e := rfl
@[simp] theorem rIf_eq (t : Sl → M Bool) (f g : Sl → M R) (e : Sl) : rIf t f g e = (t e).bind fun b => if b then f e else g e := rfl
@[simp] theorem eCh_eq (o o' : Op) (fa fb fc : Sl → M R) (e : Sl) : eCh o o' fa fb fc e = (fa e).bind fun x => (fb e).bind fun y => (o x y).bind fun r => (bo r).bind fun k => if k then (fc e).bind fun z => o' y z else .ok (.d (.bool false)) := rfl
@[simp] theorem aNil_eq (e : Sl) : aNil e = .ok [] := rfl
@[simp] theorem aCons_eq (f : Sl → M R) (r : Sl → M (List R)) (e : Sl) : aCons f r e = (f e).bind fun x => (r e).bind fun xs => .ok (x :: xs) := rfl
@[simp] theorem dNil_eq (e : Sl) : dNil e = .ok [] := rfl
@[simp] theorem dCons_eq (f : Sl → M R) (r : Sl → M (List PD)) (e : Sl) : dCons f r e = (f e).bind fun x => (dat x).bind fun y => (r e).bind fun xs => .ok (y :: xs) := rfl
@[simp] theorem dat_d (x : PD) : dat (.d x) = .ok x := rfl
@[simp] theorem dat_l (x : List PD) : dat (.l true x) = .ok (.list x) := rfl
@[simp] theorem eL_eq (f : Sl → M (List PD)) (e : Sl) : eL f e = (f e).bind mkL := rfl
@[simp] theorem eT_eq (f : Sl → M (List PD)) (e : Sl) : eT f e = (f e).bind mkT := rfl
theorem mkL_ok {xs : List PD} (h : xs.length ≤ big) : mkL xs = .ok (.l true xs) := if_pos h
theorem mkT_ok {xs : List PD} (h : xs.length ≤ big) : mkT xs = .ok (.d (.tuple xs)) := if_pos h
@[simp] theorem mkL_0 : mkL [] = .ok (.l true []) := rfl
@[simp] theorem mkL_1 (a : PD) : mkL [a] = .ok (.l true [a]) := rfl
@[simp] theorem mkL_2 (a b : PD) : mkL [a, b] = .ok (.l true [a, b]) := rfl
@[simp] theorem mkL_3 (a b c : PD) : mkL [a, b, c] = .ok (.l true [a, b, c]) := rfl
@[simp] theorem mkT_1 (a : PD) : mkT [a] = .ok (.d (.tuple [a])) := rfl
@[simp] theorem mkT_2 (a b : PD) : mkT [a, b] = .ok (.d (.tuple [a, b])) := rfl
@[simp] theorem mkT_3 (a b c : PD) : mkT [a, b, c] = .ok (.d (.tuple [a, b, c])) := rfl
@[simp] theorem eF_eq (o : List R → M R) (fs : Sl → M (List R)) (e : Sl) : eF o fs e = (fs e).bind o := rfl
@[simp] theorem one1_eq (o : R → M R) (r : R) : one1 o [r] = o r := rfl
@[simp] theorem eSl_eq (f : Sl → M R) (l h : Sl → M (Option Int)) (e : Sl) : eSl f l h e = (f e).bind fun r => (l e).bind fun lo => (h e).bind fun hi => sl3 r lo hi := rfl
@[simp] theorem oNone_eq (e : Sl) : oNone e = .ok none := rfl
@[simp] theorem oSome_eq (f : Sl → M R) (e : Sl) : oSome f e = (f e).bind fun r => (ti r).bind fun i => .ok (some i) := rfl
@[simp] theorem eRev_eq (f : Sl → M R) (e : Sl) : eRev f e = (f e).bind rev1 := rfl
@[simp] theorem eLR2_eq (fa fb : Sl → M R) (e : Sl) : eLR2 fa fb e = (fa e).bind fun x => (fb e).bind fun y => (ti x).bind fun i => (ti y).bind fun j => lrg i j := rfl
@[simp] theorem eLR1_eq (fa : Sl → M R) (e : Sl) : eLR1 fa e = (fa e).bind fun x => (ti x).bind fun i => lrg 0 i := rfl
/-- what an argument is for a def -/
@[simp] theorem arg_d (x : PD) : R.arg (.d x) = .ok (.d x) := rfl
@[simp] theorem arg_l (b : Bool) (x : List PD) : R.arg (.l b x) = .ok (.d (.list x)) := rfl
@[simp] theorem arg_s (x : List Int) : R.arg (.s x) = .ok (.s x) := rfl
@[simp] theorem argL_nil : argL [] = .ok [] := rfl
@[simp] theorem argL_cons (r : R) (rs : List R) : argL (r :: rs) = (r.arg).bind fun a => (argL rs).bind fun as => .ok (a :: as) := rfl
@[simp] theorem eD_eq (n : Nat) (m : List R → M R) (fs : Sl → M (List R)) (e : Sl) : eD n m fs e = (fs e).bind fun rs => (argL rs).bind fun as => if rs.length = n then (if rs.any R.alias then (m as).bind immO else m as) else .error .stuck := rfl
@[simp] theorem alias_d (x : PD) : R.alias (.d x) = false := rfl
@[simp] theorem alias_s (x : List Int) : R.alias (.s x) = false := rfl
@[simp] theorem alias_lt (x : List PD) : R.alias (.l true x) = false := rfl
@[simp] theorem alias_lf (x : List PD) : R.alias (.l false x) = true := rfl
@[simp] theorem immO_b (b : Bool) : immO (.d (.bool b)) = .ok (.d (.bool b)) := rfl
@[simp] theorem immO_i (b : Int) : immO (.d (.int b)) = .ok (.d (.int b)) := rfl
@[simp] theorem immO_n : immO (.d .none) = .ok (.d .none) := rfl
theorem immL_ints : ∀ ns : List Int, immL (ns.map PyData.int) = true
  | [] => rfl
  | n :: ns => by simp [immL, imm, immL_ints ns]
theorem immL_prs : ∀ ns : List (Int × Int), immL (ns.map prD) = true
  | [] => rfl
  | n :: ns => by simp [immL, imm, prD, immL_prs ns]
@[simp] theorem immO_li (b : Bool) (ns : List Int) : immO (.l b (ns.map PyData.int)) = .ok (.l b (ns.map PyData.int)) := by
  show (if immL (ns.map PyData.int) = true then (.ok (.l b (ns.map PyData.int)) : M R) else .error .stuck) = _
  rw [if_pos (immL_ints ns)]
@[simp] theorem immO_lp (b : Bool) (ns : List (Int × Int)) : immO (.l b (ns.map prD)) = .ok (.l b (ns.map prD)) := by
  show (if immL (ns.map prD) = true then (.ok (.l b (ns.map prD)) : M R) else .error .stuck) = _
  rw [if_pos (immL_prs ns)]
@[simp] theorem back_d (x : PD) : R.back (.d x) = .d x := rfl
@[simp] theorem back_l (b : Bool) (x : List PD) : R.back (.l b x) = .l true x := rfl
@[simp] theorem held_d (x : PD) : R.held (.d x) = .d x := rfl
@[simp] theorem held_l (b : Bool) (x : List PD) : R.held (.l b x) = .l false x := rfl
@[simp] theorem view_d (x : PD) : R.view (.d x) = some x := rfl
@[simp] theorem view_l (b : Bool) (x : List PD) : R.view (.l b x) = some (.list x) := rfl
@[simp] theorem view_s (x : List Int) : R.view (.s x) = some (.list (x.map .int)) := rfl
@[simp] theorem sq_d (x : List PD) : R.sq? (.d (.list x)) = some x := rfl
@[simp] theorem sq_l (b : Bool) (x : List PD) : R.sq? (.l b x) = some x := rfl
@[simp] theorem sq_s (x : List Int) : R.sq? (.s x) = some (x.map .int) := rfl
@[simp] theorem lst_d (x : List PD) : R.lst? (.d (.list x)) = some x := rfl
@[simp] theorem lst_l (b : Bool) (x : List PD) : R.lst? (.l b x) = some x := rfl
/-! statements -/
@[simp] theorem sNext_eq (e : Sl) : sNext e = .ok (.nx e) := rfl
@[simp] theorem sSeq_eq (g1 g2 : Sl → M Oc) (e : Sl) : sSeq g1 g2 e = (g1 e).bind fun o => match o with
  | .nx e => g2 e
  | o => .ok o := rfl
@[simp] theorem sIf_eq (c : Sl → M Bool) (a b : Sl → M Oc) (e : Sl) : sIf c a b e = (c e).bind fun t => if t then a e else b e := rfl
@[simp] theorem sSet_eq (i : Nat) (f : Sl → M R) (e : Sl) : sSet i f e = (f e).bind fun r => nxS (setS i r e) := rfl
@[simp] theorem nxS_ok (e : Sl) : nxS (.ok e) = .ok (.nx e) := rfl
theorem setS_ok {i : Nat} {r : R} {env : Sl} (h : i < env.length) (a : r.alias = false) : setS i r env = .ok (env.set i (some r.held)) := if_pos ⟨h, a⟩
@[simp] theorem setS_d (i : Nat) (x : PD) (env : Sl) : setS i (.d x) env = if i < env.length then .ok (env.set i (some (.d x))) else .error .stuck := by
  unfold setS; simp
@[simp] theorem setS_l (i : Nat) (x : List PD) (env : Sl) : setS i (.l true x) env = if i < env.length then .ok (env.set i (some (.l false x))) else .error .stuck := by
  unfold setS; simp
@[simp] theorem sDrop_eq (f : Sl → M R) (e : Sl) : sDrop f e = (f e).bind fun _ => .ok (.nx e) := rfl
@[simp] theorem rE_eq (f : Sl → M R) (e : Sl) : rE f e = (f e).bind fun r => if r.alias then .error .stuck else .ok r := rfl
@[simp] theorem sRet_eq (f : Sl → M R) (e : Sl) : sRet f e = (f e).bind fun r => .ok (.ret r) := rfl
@[simp] theorem sFor_eq (fi : Sl → M (List PD)) (fG : PD → Sl → M Sl) (g : Sl → M Oc) (e : Sl) : sFor fi fG g e = (fi e).bind fun xs => forGo fG g xs e := rfl
@[simp] theorem sSetM_eq (i : Nat) (f : Sl → M (PD × Sl)) (e : Sl) : sSetM i f e = (f e).bind fun p => nxS (setS i (.d p.1) p.2) := rfl
@[simp] theorem mE_eq (f : Sl → M R) (e : Sl) : mE f e = (f e).bind fun r => (dat r).bind fun d => .ok (d, e) := rfl
theorem sApp_l {i : Nat} {f : Sl → M (PD × Sl)} {e : Sl} {b : Bool} {xs : List PD} (h : e[i]? = some (some (.l b xs))) : sApp i f e = (f e).bind fun p => nxS (appS i p.1 p.2) := by
  have : isL i e = true := by unfold isL; rw [h]
  unfold sApp; rw [if_pos this]
theorem appS_ok {i : Nat} {d : PD} {e : Sl} {b : Bool} {xs : List PD} (h : e[i]? = some (some (.l b xs))) (hz : xs.length < big) : appS i d e = .ok (e.set i (some (.l false (xs ++ [d])))) := by
  unfold appS; rw [h]; exact if_pos hz
@[simp] theorem sRaise_eq (x : Str) (e : Sl) : sRaise x e = .error (.exc x none) := rfl
@[simp] theorem iL_eq (f : Sl → M R) (e : Sl) : iL f e = (f e).bind itm := rfl
@[simp] theorem itm_d (x : List PD) : itm (.d (.list x)) = .ok x := rfl
@[simp] theorem itm_l (x : List PD) : itm (.l true x) = .ok x := rfl
@[simp] theorem itm_s (x : List Int) : itm (.s x) = .ok (x.map .int) := rfl
@[simp] theorem iR1_eq (f : Sl → M (List R)) (e : Sl) : iR1 f e = (f e).bind fun rs => (intL rs).bind rg1 := rfl
@[simp] theorem iR2_eq (f : Sl → M (List R)) (e : Sl) : iR2 f e = (f e).bind fun rs => (intL rs).bind rg2 := rfl
@[simp] theorem intL_1 (i : Int) : intL [.d (.int i)] = .ok [i] := rfl
@[simp] theorem intL_2 (i j : Int) : intL [.d (.int i), .d (.int j)] = .ok [i, j] := rfl
theorem rg1_ok {j : Int} (h : -lim ≤ j ∧ j ≤ lim) : rg1 [j] = .ok (rngD 0 j.toNat) := if_pos (limP_iff.mpr h)
theorem rg2_ok {i j : Int} (h : -lim ≤ i ∧ i ≤ lim) (h' : -lim ≤ j ∧ j ≤ lim) : rg2 [i, j] = .ok (rngD i (j - i).toNat) := if_pos ⟨limP_iff.mpr h, limP_iff.mpr h'⟩
theorem lrg_val {i j : Int} (h : -lim ≤ i ∧ i ≤ lim) (h' : -lim ≤ j ∧ j ≤ lim) (hz : (j - i).toNat ≤ big) : lrg i j = .ok (.l true (rngD i (j - i).toNat)) := if_pos ⟨limP_iff.mpr h, limP_iff.mpr h', hz⟩
@[simp] theorem eLc_eq (fi : Sl → M (List PD)) (own : List Nat) (fG : PD → Sl → M Sl) (ft : Sl → M Bool) (fe : Sl → M R) (e : Sl) : eLc fi own fG ft fe e = (fi e).bind fun xs => (quiet (lcGo fG ft fe (wipeS e own) xs)).bind mkL := rfl
@[simp] theorem gN_eq (i : Nat) (x : PD) (env : Sl) : gN i x env = if i < env.length then .ok (env.set i (some (.d x))) else .error .stuck := rfl
@[simp] theorem wipeS_nil (e : Sl) : wipeS e [] = e := rfl
@[simp] theorem wipeS_cons (e : Sl) (v : Nat) (vs : List Nat) : wipeS e (v :: vs) = (wipeS e vs).set v none := rfl
/-! operations -/
@[simp] theorem oAdd_i (i j : Int) : oAdd (.d (.int i)) (.d (.int j)) = .ok (.d (.int (i + j))) := rfl
@[simp] theorem oAdd_ll (a b : Bool) (x y : List PD) : oAdd (.l a x) (.l b y) = mkL (x ++ y) := rfl
@[simp] theorem oAdd_dl (b : Bool) (x y : List PD) : oAdd (.d (.list x)) (.l b y) = mkL (x ++ y) := rfl
@[simp] theorem oAdd_ld (b : Bool) (x y : List PD) : oAdd (.l b x) (.d (.list y)) = mkL (x ++ y) := rfl
@[simp] theorem oAdd_dd (x y : List PD) : oAdd (.d (.list x)) (.d (.list y)) = mkL (x ++ y) := rfl
@[simp] theorem oSub_i (i j : Int) : oSub (.d (.int i)) (.d (.int j)) = .ok (.d (.int (i - j))) := rfl
theorem oMul_i {i j : Int} (h : small64 i ∨ small64 j) : oMul (.d (.int i)) (.d (.int j)) = .ok (.d (.int (i * j))) := if_pos h
theorem oDiv_i {i j : Int} (h : 0 < j ∧ j < 1073741824) : oDiv (.d (.int i)) (.d (.int j)) = .ok (.d (.int (i / j))) := if_pos (c := CDv i j) h
theorem oMod_i {i j : Int} (h : 0 < j) : oMod (.d (.int i)) (.d (.int j)) = .ok (.d (.int (i % j))) := if_pos (c := CMd i j) h
@[simp] theorem oLt_i (i j : Int) : oLt (.d (.int i)) (.d (.int j)) = .ok (.d (.bool (decide (i < j)))) := rfl
@[simp] theorem oLe_i (i j : Int) : oLe (.d (.int i)) (.d (.int j)) = .ok (.d (.bool (decide (i ≤ j)))) := rfl
@[simp] theorem oGt_i (i j : Int) : oGt (.d (.int i)) (.d (.int j)) = .ok (.d (.bool (decide (j < i)))) := rfl
@[simp] theorem oGe_i (i j : Int) : oGe (.d (.int i)) (.d (.int j)) = .ok (.d (.bool (decide (j ≤ i)))) := rfl
@[simp] theorem oLen_d (x : List PD) : oLen (.d (.list x)) = .ok (.d (.int x.length)) := rfl
@[simp] theorem oLen_t (x : List PD) : oLen (.d (.tuple x)) = .ok (.d (.int x.length)) := rfl
@[simp] theorem oLen_l (b : Bool) (x : List PD) : oLen (.l b x) = .ok (.d (.int x.length)) := rfl
@[simp] theorem oLen_s (x : List Int) : oLen (.s x) = .ok (.d (.int x.length)) := by
  show (.ok (.d (.int (x.map PyData.int).length)) : M R) = _
  rw [List.length_map]
@[simp] theorem oList_d (x : List PD) : oList (.d (.list x)) = .ok (.l true x) := rfl
@[simp] theorem oList_l (b : Bool) (x : List PD) : oList (.l b x) = .ok (.l true x) := rfl
@[simp] theorem oNeg_i (i : Int) : oNeg (.d (.int i)) = .ok (.d (.int (-i))) := rfl
theorem oIsi_eq {T n : String} {r : R} (h : tyN r = some n) (hT : T ∈ tyTs) : oIsi T r = .ok (.d (.bool (isiB n T))) := by
  unfold oIsi; rw [h]; exact if_pos hT
theorem ix2_l {b : Bool} {x : List PD} {i : Int} {d : PD} (h : atI x i = some d) : ix2 (.l b x) (.d (.int i)) = .ok (.d d) := by
  show (match atI x i with
    | some x => (.ok (.d x) : M R)
    | none => .error .stuck) = _
  rw [h]
theorem ix2_d {x : List PD} {i : Int} {d : PD} (h : atI x i = some d) : ix2 (.d (.list x)) (.d (.int i)) = .ok (.d d) := by
  show (match atI x i with
    | some x => (.ok (.d x) : M R)
    | none => .error .stuck) = _
  rw [h]
theorem ix2_t {x : List PD} {i : Int} {d : PD} (h : atI x i = some d) : ix2 (.d (.tuple x)) (.d (.int i)) = .ok (.d d) := by
  show (match atI x i with
    | some x => (.ok (.d x) : M R)
    | none => .error .stuck) = _
  rw [h]
theorem ix2_s {x : List Int} {i : Int} {d : PD} (h : atI (x.map PyData.int) i = some d) : ix2 (.s x) (.d (.int i)) = .ok (.d d) := by
  show (match atI (x.map PyData.int) i with
    | some x => (.ok (.d x) : M R)
    | none => .error .stuck) = _
  rw [h]
@[simp] theorem sl3_d (x : List PD) (lo hi : Option Int) : sl3 (.d (.list x)) lo hi = .ok (.l true (cutD x lo hi)) := rfl
@[simp] theorem sl3_l (b : Bool) (x : List PD) (lo hi : Option Int) : sl3 (.l b x) lo hi = .ok (.l true (cutD x lo hi)) := rfl
@[simp] theorem rev1_d (x : List PD) : rev1 (.d (.list x)) = .ok (.l true x.reverse) := rfl
@[simp] theorem rev1_l (b : Bool) (x : List PD) : rev1 (.l b x) = .ok (.l true x.reverse) := rfl
theorem oAll_b {r : R} {bs : List Bool} (h : r.sq? = some (bs.map .bool)) : oAll r = .ok (.d (.bool (bs.all id))) := by
  unfold oAll; rw [h]
  show (match bools? (bs.map .bool) with
    | some bs => (.ok (.d (.bool (bs.all id))) : M R)
    | none => .error .stuck) = _
  rw [bools_of]
theorem oSum_i {r : R} {bs : List Int} (h : r.sq? = some (bs.map .int)) : oSum r = .ok (.d (.int bs.sum)) := by
  unfold oSum; rw [h]
  show (match ints? (bs.map .int) with
    | some bs => (.ok (.d (.int bs.sum)) : M R)
    | none => .error .stuck) = _
  rw [ints_of]
theorem oLset_i {r : R} {ns : List Int} (h : r.sq? = some (ns.map .int)) (hn : ns.Nodup) (hl : ns.length ≤ 4000) : oLset r = .ok (.d (.int ns.length)) := by
  unfold oLset; rw [h]
  show (match ints? (ns.map .int) with
    | some ns => if ns.Nodup ∧ ns.length ≤ 4000 then (.ok (.d (.int ns.length)) : M R) else .error .stuck
    | none => .error .stuck) = _
  rw [ints_of]
  exact if_pos ⟨hn, hl⟩
/-! equality -/
theorem eqv_ints : ∀ ns ms : List Int, PyData.eqvAll (ns.map .int) (ms.map .int) = decide (ns = ms)
  | [], [] => by simp [PyData.eqvAll]
  | [], _ :: _ => by simp [PyData.eqvAll]
  | _ :: _, [] => by simp [PyData.eqvAll]
  | n :: ns, m :: ms => by
    simp only [List.map_cons, PyData.eqvAll, PyData.eqv, eqv_ints ns ms, List.cons.injEq, Bool.decide_and]
    rw [Bool.beq_eq_decide_eq]
theorem eqv_prs : ∀ ns ms : List (Int × Int), PyData.eqvAll (ns.map prD) (ms.map prD) = decide (ns = ms)
  | [], [] => by simp [PyData.eqvAll]
  | [], _ :: _ => by simp [PyData.eqvAll]
  | _ :: _, [] => by simp [PyData.eqvAll]
  | (a, b) :: ns, (c, d) :: ms => by
    simp only [List.map_cons, PyData.eqvAll, PyData.eqv, prD, eqv_prs ns ms, List.cons.injEq, Bool.decide_and, Prod.mk.injEq, Bool.and_true]
    rw [Bool.beq_eq_decide_eq, Bool.beq_eq_decide_eq]
theorem eqv_pr (p q : Int × Int) : PyData.eqv (prD p) (prD q) = decide (p = q) := by
  have := eqv_prs [p] [q]
  simpa [PyData.eqvAll] using this
theorem lay_ints : ∀ ns : List Int, PyData.canLayAll0 (ns.map .int) = true
  | [] => by simp [PyData.canLayAll0]
  | n :: ns => by simp [PyData.canLayAll0, PyData.canLay0, lay_ints ns]
theorem lay_prs : ∀ ns : List (Int × Int), PyData.canLayAll0 (ns.map prD) = true
  | [] => by simp [PyData.canLayAll0]
  | n :: ns => by simp [PyData.canLayAll0, PyData.canLay0, prD, lay_prs ns]
theorem dep_ints : ∀ ns : List Int, PyData.depthAll (ns.map .int) = 0
  | [] => by simp [PyData.depthAll]
  | n :: ns => by simp [PyData.depthAll, PyData.depth, dep_ints ns]
theorem dep_prs : ∀ ns : List (Int × Int), PyData.depthAll (ns.map prD) ≤ 1
  | [] => by simp [PyData.depthAll]
  | n :: ns => by
    have := dep_prs ns
    simp [PyData.depthAll, PyData.depth, prD]
    omega
@[simp] theorem sh_int (i : Int) : SeqAt.shaped (.int i) = true := by simp [SeqAt.shaped, PyData.canLay0, PyData.depth]
@[simp] theorem sh_bool (i : Bool) : SeqAt.shaped (.bool i) = true := by simp [SeqAt.shaped, PyData.canLay0, PyData.depth]
@[simp] theorem sh_none : SeqAt.shaped .none = true := by simp [SeqAt.shaped, PyData.canLay0, PyData.depth]
@[simp] theorem sh_nil : SeqAt.shaped (.list []) = true := by simp [SeqAt.shaped, PyData.canLay0, PyData.canLayAll0, PyData.depth, PyData.depthAll]
@[simp] theorem sh_ints (ns : List Int) : SeqAt.shaped (.list (ns.map .int)) = true := by simp [SeqAt.shaped, PyData.canLay0, lay_ints, PyData.depth, dep_ints]
@[simp] theorem sh_pr (p : Int × Int) : SeqAt.shaped (prD p) = true := by simp [SeqAt.shaped, prD, PyData.canLay0, PyData.canLayAll0, PyData.depth, PyData.depthAll]
@[simp] theorem sh_prs (ns : List (Int × Int)) : SeqAt.shaped (.list (ns.map prD)) = true := by
  have := dep_prs ns
  simp [SeqAt.shaped, PyData.canLay0, lay_prs, PyData.depth]
  omega
theorem oEq_i (neg : Bool) (i j : Int) : oEq neg (.d (.int i)) (.d (.int j)) = .ok (.d (.bool (xor neg (decide (i = j))))) := by
  unfold oEq; simp [PyData.eqv, Bool.beq_eq_decide_eq]
theorem oEq_li {neg : Bool} {r r' : R} {ns ms : List Int} (h : r.view = some (.list (ns.map .int))) (h' : r'.view = some (.list (ms.map .int))) : oEq neg r r' = .ok (.d (.bool (xor neg (decide (ns = ms))))) := by
  unfold oEq; rw [h, h']
  dsimp only
  rw [if_pos ⟨sh_ints ns, sh_ints ms⟩, PyData.eqv, eqv_ints]
theorem oEq_lp {neg : Bool} {r r' : R} {ns ms : List (Int × Int)} (h : r.view = some (.list (ns.map prD))) (h' : r'.view = some (.list (ms.map prD))) : oEq neg r r' = .ok (.d (.bool (xor neg (decide (ns = ms))))) := by
  unfold oEq; rw [h, h']
  dsimp only
  rw [if_pos ⟨sh_prs ns, sh_prs ms⟩, PyData.eqv, eqv_prs]
theorem oIn_li {neg : Bool} {r : R} {i : Int} {ns : List Int} (h : r.sq? = some (ns.map .int)) : oIn neg (.d (.int i)) r = .ok (.d (.bool (xor neg (decide (i ∈ ns))))) := by
  unfold oIn
  rw [h]
  simp only [view_d]
  rw [if_pos ⟨sh_int i, sh_ints ns⟩]
  have : ((ns.map PyData.int).any fun z => PyData.eqv z (.int i)) = decide (i ∈ ns) := by
    clear h
    induction ns with
    | nil => simp
    | cons n ns ih =>
      simp only [List.map_cons, List.any_cons, ih, PyData.eqv, List.mem_cons, Bool.decide_or, Bool.beq_eq_decide_eq]
      congr 1
      exact decide_eq_decide.mpr eq_comm
  rw [this]
theorem oIn_lp {neg : Bool} {r : R} {p : Int × Int} {ns : List (Int × Int)} (h : r.sq? = some (ns.map prD)) : oIn neg (.d (prD p)) r = .ok (.d (.bool (xor neg (decide (p ∈ ns))))) := by
  unfold oIn
  rw [h]
  simp only [view_d]
  rw [if_pos ⟨sh_pr p, sh_prs ns⟩]
  have : ((ns.map prD).any fun z => PyData.eqv z (prD p)) = decide (p ∈ ns) := by
    clear h
    induction ns with
    | nil => simp
    | cons n ns ih =>
      simp only [List.map_cons, List.any_cons, ih, eqv_pr, List.mem_cons, Bool.decide_or]
      congr 1
      exact decide_eq_decide.mpr eq_comm
  rw [this]
/-! ### loops -/
theorem lcGo_map {α : Type} {fG : PD → Sl → M Sl} {ft : Sl → M Bool} {fe : Sl → M R} {env : Sl} (enc : α → PD) (p : α → Bool) (f : α → PD) : ∀ {xs : List α},
    (∀ x ∈ xs, ∃ e1, fG (enc x) env = .ok e1 ∧ ft e1 = .ok (p x) ∧ (p x = true → ∃ r, fe e1 = .ok r ∧ dat r = .ok (f x))) → lcGo fG ft fe env (xs.map enc) = .ok ((xs.filter p).map f)
  | [], _ => rfl
  | x :: xs, h => by
    obtain ⟨e1, h1, h2, h3⟩ := h x List.mem_cons_self
    have ih := lcGo_map enc p f (xs := xs) fun y hy => h y (List.mem_cons_of_mem _ hy)
    simp only [List.map_cons, lcGo, h1, h2, bind_ok]
    cases hp : p x with
    | false => simp [hp, ih]
    | true =>
      obtain ⟨r, h4, h5⟩ := h3 hp
      simp [hp, h4, h5, ih]
/-- no test -/
theorem lcGo_all {α : Type} {fG : PD → Sl → M Sl} {fe : Sl → M R} {env : Sl} (enc : α → PD) (f : α → PD) {xs : List α}
    (h : ∀ x ∈ xs, ∃ e1, fG (enc x) env = .ok e1 ∧ ∃ r, fe e1 = .ok r ∧ dat r = .ok (f x)) : lcGo fG tTrue fe env (xs.map enc) = .ok (xs.map f) := by
  have := lcGo_map (ft := tTrue) (fe := fe) (fG := fG) (env := env) enc (fun _ => true) f (xs := xs) fun x hx => by
    obtain ⟨e1, h1, h2⟩ := h x hx
    exact ⟨e1, h1, rfl, fun _ => h2⟩
  rw [this, List.filter_eq_self.mpr (fun _ _ => rfl)]
theorem forGo_inv {fG : PD → Sl → M Sl} {g : Sl → M Oc} (P : Nat → Sl → Prop) : ∀ (xs : List PD) (k : Nat) (env : Sl), P k env →
    (∀ (i : Nat) (x : PD) env, xs[i]? = some x → P (k + i) env → ∃ e1 e2, fG x env = .ok e1 ∧ (g e1 = .ok (.nx e2) ∨ g e1 = .ok (.ct e2)) ∧ P (k + i + 1) e2) → ∃ env', forGo fG g xs env = .ok (.nx env') ∧ P (k + xs.length) env'
  | [], k, env, h0, _ => ⟨env, rfl, h0⟩
  | x :: xs, k, env, h0, h => by
    obtain ⟨e1, e2, h1, h2, h3⟩ := h 0 x env rfl h0
    obtain ⟨env', h4, h5⟩ := forGo_inv P xs (k + 1) e2 h3 fun i y e hi hp => by
      have := h (i + 1) y e (by simpa using hi) (by rw [show k + (i + 1) = k + 1 + i by omega]; exact hp)
      rw [show k + (i + 1) + 1 = k + 1 + i + 1 by omega] at this
      exact this
    refine ⟨env', ?_, by rw [List.length_cons, show k + (xs.length + 1) = k + 1 + xs.length by omega]; exact h5⟩
    simp only [forGo, h1, quiet_ok, bind_ok]
    rcases h2 with h2 | h2 <;> simp only [h2, bind_ok, h4]
/-- a loop over a range -/
theorem forGo_rng {fG : PD → Sl → M Sl} {g : Sl → M Oc} {lo : Int} {n : Nat} (P : Nat → Sl → Prop) (env : Sl) (h0 : P 0 env)
    (h : ∀ (i : Nat) env, i < n → P i env → ∃ e1 e2, fG (.int (lo + (i : Int))) env = .ok e1 ∧ (g e1 = .ok (.nx e2) ∨ g e1 = .ok (.ct e2)) ∧ P (i + 1) e2) : ∃ env', forGo fG g (rngD lo n) env = .ok (.nx env') ∧ P n env' := by
  have hl : (rngD lo n).length = n := by simp [rngD]
  obtain ⟨env', h1, h2⟩ := forGo_inv (fG := fG) (g := g) P (rngD lo n) 0 env h0 fun i x env hi hp => by
    have hin : i < n := by rw [← hl]; exact (List.getElem?_eq_some_iff.mp hi).1
    have hx : x = .int (lo + (i : Int)) := by simp [rngD, hin] at hi; exact hi.symm
    subst hx
    rw [Nat.zero_add] at hp ⊢
    exact h i env hin hp
  rw [Nat.zero_add, hl] at h2
  exact ⟨env', h1, h2⟩
/-- a loop over a list of things -/
theorem forGo_list {α : Type} {fG : PD → Sl → M Sl} {g : Sl → M Oc} (enc : α → PD) (xs : List α) (P : Nat → Sl → Prop) (env : Sl) (h0 : P 0 env)
    (h : ∀ (i : Nat) (x : α) env, xs[i]? = some x → P i env → ∃ e1 e2, fG (enc x) env = .ok e1 ∧ (g e1 = .ok (.nx e2) ∨ g e1 = .ok (.ct e2)) ∧ P (i + 1) e2) : ∃ env', forGo fG g (xs.map enc) env = .ok (.nx env') ∧ P xs.length env' := by
  obtain ⟨env', h1, h2⟩ := forGo_inv (fG := fG) (g := g) P (xs.map enc) 0 env h0 fun i x env hi hp => by
    rw [List.getElem?_map, Option.map_eq_some_iff] at hi
    obtain ⟨y, hy, rfl⟩ := hi
    rw [Nat.zero_add] at hp ⊢
    exact h i y env hy hp
  rw [Nat.zero_add, List.length_map] at h2
  exact ⟨env', h1, h2⟩
/-! step by step -/
theorem runM_ret {n : Nat} {g : Sl → M Oc} {rs : List R} {r : R} (e : Sl) (he : startS n rs = e) (h : g e = .ok (.ret r)) : runM n g rs = .ok r := by
  unfold runM; rw [he, h]; rfl
theorem runM_nx {n : Nat} {g : Sl → M Oc} {rs : List R} (e : Sl) {e' : Sl} (he : startS n rs = e) (h : g e = .ok (.nx e')) : runM n g rs = .ok (.d .none) := by
  unfold runM; rw [he, h]; rfl
theorem runM_ex {n : Nat} {g : Sl → M Oc} {rs : List R} (e : Sl) {er : Er} (he : startS n rs = e) (h : g e = .error er) : runM n g rs = .error er := by
  unfold runM; rw [he, h]; rfl
theorem seq_nx {g1 g2 : Sl → M Oc} {e : Sl} (e1 : Sl) {r : M Oc} (h1 : g1 e = .ok (.nx e1)) (h2 : g2 e1 = r) : sSeq g1 g2 e = r := by
  rw [sSeq_eq, h1]; exact h2
theorem seq_ret {g1 g2 : Sl → M Oc} {e : Sl} {r : R} (h1 : g1 e = .ok (.ret r)) : sSeq g1 g2 e = .ok (.ret r) := by
  rw [sSeq_eq, h1]; rfl
theorem seq_ex {g1 g2 : Sl → M Oc} {e : Sl} {r : Er} (h1 : g1 e = .error r) : sSeq g1 g2 e = .error r := by
  rw [sSeq_eq, h1]; rfl
theorem if_t {c : Sl → M Bool} {a b : Sl → M Oc} {e : Sl} {r : M Oc} (hc : c e = .ok true) (h : a e = r) : sIf c a b e = r := by
  rw [sIf_eq, hc]; exact h
theorem if_f {c : Sl → M Bool} {a b : Sl → M Oc} {e : Sl} {r : M Oc} (hc : c e = .ok false) (h : b e = r) : sIf c a b e = r := by
  rw [sIf_eq, hc]; exact h
theorem set_v {i : Nat} {f : Sl → M R} {e : Sl} (r : R) (h : f e = .ok r) (hi : i < e.length := by first | decide | simp) (ha : r.alias = false := by rfl) : sSet i f e = .ok (.nx (e.set i (some r.held))) := by
  rw [sSet_eq, h]
  show nxS (setS i r e) = _
  rw [setS_ok hi ha]; rfl
theorem ret_v {f : Sl → M R} {e : Sl} {r : R} (h : f e = .ok r) : sRet f e = .ok (.ret r) := by
  rw [sRet_eq, h]; rfl
theorem rE_v {f : Sl → M R} {e : Sl} {r : R} (h : f e = .ok r) (ha : r.alias = false := by rfl) : rE f e = .ok r := by
  rw [rE_eq, h]
  show (if r.alias then (.error .stuck : M R) else .ok r) = _
  rw [ha]; rfl
theorem for_v {fi : Sl → M (List PD)} {fG : PD → Sl → M Sl} {g : Sl → M Oc} {e : Sl} {xs : List PD} {r : M Oc} (h : fi e = .ok xs) (h2 : forGo fG g xs e = r) : sFor fi fG g e = r := by
  rw [sFor_eq, h]; exact h2
theorem call_v {n : Nat} {m : List R → M R} {fs : Sl → M (List R)} {e : Sl} {rs as : List R} {r : R} (h : fs e = .ok rs) (ha : argL rs = .ok as) (hm : m as = .ok r) (hl : rs.length = n := by rfl) (hi : rs.any R.alias = true → immO r = .ok r := by intro h; cases h) : eD n m fs e = .ok r := by
  rw [eD_eq, h]
  show (argL rs).bind _ = _
  rw [ha]
  show (if rs.length = n then (if rs.any R.alias then (m as).bind immO else m as) else (.error .stuck : M R)) = _
  rw [if_pos hl, hm]
  cases q : rs.any R.alias with
  | true => exact hi q
  | false => rfl
theorem rngD_map (lo : Int) (n : Nat) : rngD lo n = (List.range n).map fun (k : Nat) => PyData.int (lo + (k : Int)) := rfl
end Vs
end
section
namespace Vs
open PySem PySem.Spec PyProof.Rows L2
/-! ## dict(xs), the keys tuples: a rule of the hand layer -/
section
variable {X : Cx}
def mergeT (kvs more : List (List Key × V)) : List (List Key × V) := more.foldl (fun acc kv => putK acc kv.1 kv.2) kvs
theorem KT.merge {H : Hp} {more : List (List Key × V)} {rs : List (List Key × Addr × Value)} (r : KT H more rs) : ∀ {kvs : List (List Key × V)} {vs : List (List Key × Addr × Value)}, KT H kvs vs → KT H (mergeT kvs more) (storedAllH vs rs) := by
  induction r with
  | nil => exact fun h => h
  | @cons p q ps qs hq t ih =>
    intro kvs vs h
    obtain ⟨k, b, y⟩ := q
    obtain ⟨k', v⟩ := p
    obtain ⟨e1, e2, e3⟩ := hq
    have e1 : k' = k := e1
    subst e1
    exact ih (h.put k' e2 e3)
theorem length_mergeT : ∀ (more kvs : List (List Key × V)), (mergeT kvs more).length ≤ kvs.length + more.length
  | [], kvs => Nat.le_refl _
  | kv :: more, kvs => by
    have h1 := length_mergeT more (putK kvs kv.1 kv.2)
    have h2 := length_putK kvs kv.1 kv.2
    show (mergeT (putK kvs kv.1 kv.2) more).length ≤ _
    rw [List.length_cons]; omega
theorem tpairs_of {pins : List (Addr × Obj)} {σ : L2.St} {H : Hp} {s : Shared} (I : Inv X pins σ H s) : ∀ {L : List (Addr × Addr × (List Key × V))}, (∀ x ∈ L, SqT X.K H x.1 [.ref x.2.1, x.2.2.2] ∧ H x.2.1 = some (.tup (x.2.2.1.map kV))) →
    ∃ xs : List (List Key × Addr × Value), xs.length = L.length ∧ KT H (L.map (·.2.2)) xs ∧ ∀ (j : Nat) k b y, xs[j]? = some (k, b, y) → ∃ x, L[j]? = some x ∧ IsTup s.heap x.1 #[.ref b, y]
  | [], _ => ⟨[], rfl, .nil, fun j k b y e => by simp at e⟩
  | x :: L, h => by
    obtain ⟨xs, hl, hk, hp⟩ := tpairs_of I (L := L) fun y hy => h y (List.mem_cons_of_mem _ hy)
    obtain ⟨h1, h2⟩ := h x List.mem_cons_self
    obtain ⟨its, rv, ht, _⟩ := I.tuple h1
    obtain ⟨u, y, ei, ru, ry⟩ := vals2 rv
    subst ei
    obtain rfl : u = Value.ref x.2.1 := ru
    refine ⟨(x.2.2.1, x.2.1, y) :: xs, by rw [List.length_cons, List.length_cons, hl], .cons ⟨rfl, h2, ry⟩ hk, fun j k b y' e => ?_⟩
    cases j with
    | zero =>
      have e' : (x.2.2.1, x.2.1, y) = (k, b, y') := Option.some.inj e
      cases e'
      exact ⟨x, rfl, ht⟩
    | succ j =>
      obtain ⟨x', e1, e2⟩ := hp j k b y' (by simpa using e)
      exact ⟨x', by simpa using e1, e2⟩
theorem call_dictT (hcalm : X.calm = true) (hu : X.A.units + 3 < cLine) : CallR X (.type "dict") (fun xs H Q => ∃ (a : Addr) (L : List (Addr × Addr × (List Key × V))), xs = [.ref a] ∧ SqL X.K H a (L.map fun x => V.ref x.1) ∧
    (∀ x ∈ L, SqT X.K H x.1 [.ref x.2.1, x.2.2.2] ∧ H x.2.1 = some (.tup (x.2.2.1.map kV))) ∧ ∀ p, H p = none → Q (.ref p) (upd H p (.dT (mergeT [] (L.map (·.2.2)))))) := by
  intro pins s σ H xs us Q I r q
  obtain ⟨a, L, ex, hq, hp, q⟩ := q
  subst ex
  obtain ⟨u, eu, rx⟩ := vals1 r
  subst eu
  cases rx
  obtain ⟨its, rv, pl, hz⟩ := I.list hq
  have rv : Vals ((L.map (·.1)).map V.ref) its := by rw [List.map_map]; exact rv
  have ei := refs_at rv
  subst ei
  rw [List.length_map] at hz
  obtain ⟨xs, hl, hk, hpr⟩ := tpairs_of I hp
  obtain ⟨o, n, ho, hc, hd, hdat⟩ := pl
  have hPl : PlainSeq "list" s.heap a (((L.map (·.1)).map Value.ref).toArray) := ⟨o, n, ho, hc, hd, hdat⟩
  have hPI : PairItems s.heap (((L.map (·.1)).map Value.ref).toArray) (fun j => (L.map (·.1)).getD j 0) (xs.map fun x => (Value.ref x.2.1, x.2.2)) := by
    refine ⟨by simp [hl], fun j k v e => ?_⟩
    rw [List.getElem?_map, Option.map_eq_some_iff] at e
    obtain ⟨⟨k', b, y⟩, e, e2⟩ := e
    cases e2
    obtain ⟨x, e1, ht⟩ := hpr j k' b y e
    have e3 : (L.map (·.1)).getD j 0 = x.1 := by simp [List.getD, e1]
    refine ⟨by simp [e1], .inl ?_⟩
    show s.heap.IsTuple ((L.map (·.1)).getD j 0) _
    rw [e3]
    obtain ⟨o, ho, hc, n, hd⟩ := id ht
    exact ⟨o, ho, hc, n, hd⟩
  refine call_dict_pairsH (knd := tupleKind (mixKind X.prog X.w)) (ps := xs) (PairArg.list a _ (fun j => (L.map (·.1)).getD j 0) (xs.map fun x => (Value.ref x.2.1, x.2.2))) (I.ok.hd hcalm) (tupleKind_room_in1 (by show X.A.units + 1 + 1 < cLine; omega)) ⟨hPl, hPI⟩ ⟨by simp, fun i key v e => ?_⟩ (fun h' kp x hx => ?_) (by rw [List.length_map, hl]; exact hz) fun h' tk hd' k => ?_
  · have e : (xs.map fun x => (Value.ref x.2.1, x.2.2))[i]? = some (key, v) := e
    rw [List.getElem?_map, Option.map_eq_some_iff] at e
    obtain ⟨⟨k', b, y⟩, e', e2⟩ := e
    cases e2
    exact ⟨k', b, e', rfl⟩
  · have all : ∀ {l : List (List Key × V)} {m : List (List Key × Addr × Value)}, KT H l m → ∀ x ∈ m, H x.2.1 = some (.tup (x.1.map kV)) := by
      intro l m q
      induction q with
      | nil => intro x hx; exact nomatch hx
      | @cons p q ps qs hq t ih =>
        intro x hx
        rcases List.mem_cons.mp hx with e | hx
        · subst e
          rw [← hq.1]; exact hq.2.1
        · exact ih x hx
    obtain ⟨o, its, n, h1, h2⟩ := key_of I.hok (all hk x hx)
    exact ⟨o, its, n, kp _ _ (Nat.ne_of_lt (Heap.lt_size h1)) (by simp) h1, h2⟩
  · have hm : (s.heap.objs.size == sysModules) = false := beq_eq_false_iff_ne.mpr (Nat.ne_of_gt I.big)
    have hn : H s.heap.objs.size = none := I.hok.fresh (Nat.le_refl _)
    have hlen : (mergeT [] (L.map (·.2.2))).length ≤ sizeLine := by
      refine Nat.le_trans (length_mergeT _ []) ?_
      rw [List.length_nil, Nat.zero_add, List.length_map]
      exact hz
    obtain ⟨qo, es, ep, hq', h2, h3, h4, _, h5⟩ := hd'
    refine ⟨.ref s.heap.objs.size, upd H s.heap.objs.size (.dT (mergeT [] (L.map (·.2.2)))), I.laid (t' := tk) (fun b o e => k b o (by simp) e) (Nat.le_refl _) (show ObjOk X.prog X.w _ _ _ (.dT (mergeT [] (L.map (·.2.2)))) from ⟨hlen, hm, _, (KT.merge hk .nil).keeps fun c ys ec => ?_, qo, es, ep, hq', h2, h3, h4, h5⟩), rfl, q _ hn⟩
    rw [upd_ne (fun z => by subst z; rw [hn] at ec; cases ec)]
    exact ec
end
end Vs
end
section
namespace Vs
open PySem PySem.Spec PyProof.Rows L2
/-! ## sorted(d), the keys pairs of ints -/
section
variable {X : Cx}
/-- the pair of ints at an address -/
def pairK (H : Hp) : V → Int × Int
  | .ref t => (match H t with
    | some (.tup [.int i, .int j]) => (i, j)
    | _ => (0, 0))
  | _ => (0, 0)
theorem pairK_at {H : Hp} {t : Addr} {i j : Int} (h : H t = some (.tup [.int i, .int j])) : pairK H (.ref t) = (i, j) := by
  simp [pairK, h]
theorem call_sortedTD (hc : X.calm = true) : CallR X (.builtin "sorted") (fun xs H Q => ∃ d kvs, xs = [V.ref d] ∧ Rd H d (.dT kvs) ∧ (∀ kv ∈ kvs, ∃ i j, kv.1 = [Sum.inl i, Sum.inl j]) ∧
    ∀ p bs ys, H p = none → IsKeys H kvs bs → SrtO.Srtd (ltP (pairK H)) ys → SrtO.Stb (ltP (pairK H)) ys (bs.map V.ref) → Q (.ref p) (upd H p (.lst ys))) := by
  intro pins s σ H xs us Q I r h
  obtain ⟨d, kvs, rfl, hd, hpr, q⟩ := h
  obtain ⟨u, rfl, rx⟩ := r.one
  cases rx
  obtain ⟨z, hs, ks, pr, o, es, ep, ho, hx, hdt, he, hn⟩ := (show ObjOk X.prog X.w H s.heap d (.dT kvs) from hd.ok I.hok)
  have l1 : es.size = ks.length := size_of_entries he
  have l2 : kvs.length = ks.length := Paired.length pr
  refine Calls.call_function_entry PyProof.Rows.kind_sorted PyProof.Rows.plain_sorted PyProof.Rows.entry_sorted (PyProof.Rows.args_sorted1 _) ?_
  unfold Builtin.«sorted»
  refine wpAny_bind (m := checkCount "sorted" 1 1 _) (wpAny_pure ?_)
  refine wpAny_bind (PySem.W.kdu_collect (A := X.A.in1) (kdl_raw hs hx hdt) (I.ok.hd hc) ho (by omega) fun h' tk acc' hk it => ?_)
  have ea : acc'.toList = (ks.map fun x => x.2.1).map Value.ref := by
    have hl : acc'.toList.length = ks.length := by rw [Array.length_toList, it.1]; exact l1
    apply List.ext_getElem?
    intro j
    rw [List.map_map, List.getElem?_map]
    cases hj : acc'.toList[j]? with
    | none =>
      have h1 := List.getElem?_eq_none_iff.mp hj
      rw [List.getElem?_eq_none (by omega)]
      all_goals rfl
    | some v =>
      obtain ⟨en, hen, hv⟩ := it.2 j v (by rw [← Array.getElem?_toList]; exact hj)
      have qe := entry_at he j
      rw [hen] at qe
      cases hb : ks[j]? with
      | none =>
        rw [hb] at qe
        exact nomatch (show some en = none from qe)
      | some b =>
        rw [hb] at qe
        have e2 : en = entryOfKey (tupleKind (mixKind X.prog X.w)) b := Option.some.inj qe
        rw [hv, e2]
        all_goals rfl
  generalize hvs : acc'.toList = vs at ea
  have hlen : vs.length = ks.length := by rw [ea, List.length_map, List.length_map]
  have h16 : vs.length ≤ sizeLine := by omega
  have I1 : Inv X pins σ H { s with heap := h', toks := tk } := I.kept hk
  have hpair : ∀ b ∈ ks.map (fun x => x.2.1), ∃ i j, H b = some (.tup [.int i, .int j]) := by
    have all : ∀ {l : List (List Key × V)} {m : List (List Key × Addr × Value)}, KT H l m → (∀ kv ∈ l, ∃ i j, kv.1 = [Sum.inl i, Sum.inl j]) → ∀ x ∈ m, ∃ i j, H x.2.1 = some (.tup [.int i, .int j]) := by
      intro l m q
      induction q with
      | nil => intro _ x hx; exact nomatch hx
      | @cons p q ps qs hq t ih =>
        intro hp x hx
        rcases List.mem_cons.mp hx with e | hx
        · subst e
          obtain ⟨i, j, e⟩ := hp p List.mem_cons_self
          refine ⟨i, j, ?_⟩
          have h2 := hq.2.1
          rw [e] at h2
          exact h2
        · exact ih (fun kv hkv => hp kv (List.mem_cons_of_mem _ hkv)) x hx
    intro b hb
    obtain ⟨x, hx, rfl⟩ := List.mem_map.mp hb
    exact all pr hpr x hx
  have hP : ∀ v ∈ vs, Srt.IsPair h' v (pairK H (backV v)).1 (pairK H (backV v)).2 := by
    intro v hv
    rw [ea] at hv
    obtain ⟨t, ht, rfl⟩ := List.mem_map.mp hv
    obtain ⟨i, j, e⟩ := hpair t ht
    have e2 : pairK H (backV (Value.ref t)) = (i, j) := pairK_at e
    rw [e2]
    obtain ⟨_, its2, r2, o, ho, hc, n, hd⟩ := I1.hok _ _ e
    obtain ⟨u1, u2, rfl, ri, rj⟩ := vals2 r2
    obtain ⟨t1, rfl⟩ := ri
    obtain ⟨t2, rfl⟩ := rj
    exact ⟨t, o, t1, t2, n, rfl, ho, hc, hd⟩
  refine wpAny_bind (wpAny_newList ?_ h16)
  have hoL : (h'.push (seqObj "list" vs.toArray 0)).get? h'.objs.size = some (seqObj "list" vs.toArray 0) := Heap.get?_push_size _ rfl
  show wpAny _ _ _ _ _ { s with heap := h'.push (seqObj "list" vs.toArray 0), toks := tk }
  refine wpAny_bind (wpAny_holding (wpAny_call_entry PyProof.Rows.slot_list_sort ⟨_, hoL, rfl⟩ PyProof.Rows.entry_list_sort
    (SrtO.list_sort_ord (s := { s with heap := h'.push (seqObj "list" vs.toArray 0), toks := tk }) (SrtO.swo_lex fun u => pairK H (backV u)) hoL h16 (fun h2 => ?_) fun out hs' hb => ⟨_, rfl, ?_⟩)
    (PyProof.Rows.args_list_sort _)))
  · refine SrtO.pairs_sortableO (by omega) (fun v hm => (hP v hm).keeps fun b o e _ => Heap.get?_push_of_some _ e) fun o e => ?_
    have e' : some o = some (seqObj "list" vs.toArray 0) := e.symm.trans hoL
    cases e'
    intro c
    exact absurd (Value.type.inj c) (by decide)
  obtain ⟨e', he'⟩ := PyProof.Rows.sortedHeap_at (vs := vs) (out := out.toArray) hoL
  have h3 : ∀ u ∈ out, ∃ a, u = Value.ref a := fun u hu => by
    have := hb.perm.mem_iff.mp hu
    rw [ea] at this
    obtain ⟨t, _, rfl⟩ := List.mem_map.mp this
    exact ⟨t, rfl⟩
  have eb : (ks.map fun x => x.2.1).map V.ref = vs.map backV := by rw [ea, List.map_map (f := Value.ref)]; exact List.map_congr_left fun _ _ => rfl
  have hb2 : SrtO.Stb (ltP (pairK H)) (out.map backV) ((ks.map fun x => x.2.1).map V.ref) := by
    rw [eb]
    exact SrtO.Stb.map (ltP_swo (pairK H)) backV hb
  have hlen2 : (out.map backV).length ≤ sizeLine := by
    rw [hb2.len, List.length_map, List.length_map]; omega
  refine wpAny_pure ⟨_, rfl, .ref h'.objs.size, upd H h'.objs.size (.lst (out.map backV)), I1.laid (t' := tk) (fun b u e => ?_) (Nat.le_refl _)
    (show ObjOk X.prog X.w _ _ _ (.lst (out.map backV)) from ⟨hlen2, out, e', vals_back h3, he'⟩), rfl, q _ _ _ (I1.hok.fresh (Nat.le_refl _)) (isKeys_of pr) (SrtO.srtd_map hs') hb2⟩
  have hbl : b < h'.objs.size := Heap.lt_size e
  rw [PyProof.Rows.sortedHeap_old (Nat.ne_of_lt hbl) (by rw [size_push']; exact Nat.lt_succ_of_lt hbl)]
  exact Heap.get?_push_of_some _ e
end
end Vs
end
section
namespace Vs
open PySem PySem.Spec PyProof.Rows L2

variable {w : Wd} {W : WX}
/-! ## dicts: keys of ints and texts; of tuples of them -/
def keyA : PD → Option Key
  | .int i => some (.inl i)
  | .str x => some (.inr x)
  | _ => none
def keyL : List PD → Option (List Key)
  | [] => some []
  | d :: ds => (keyA d).bind fun k => (keyL ds).bind fun ks => some (k :: ks)
def keyD : PD → Option (List Key)
  | .tuple ds => keyL ds
  | _ => none
theorem keyA_V {G : Hp} {v : V} {d : PD} {k : Key} (h : keyA d = some k) (r : Rp G v d) : v = kV k := by
  cases r with
  | int i => cases h; rfl
  | str i => cases h; rfl
  | _ => cases h
theorem keyL_V {G : Hp} : ∀ {ds : List PD} {vs : List V} {ks : List Key}, keyL ds = some ks → RpL G vs ds → vs = ks.map kV
  | [], _, _, h, r => by cases h; cases r; rfl
  | d :: ds, _, ks, h, r => by
    cases r with
    | cons r1 r2 =>
      unfold keyL at h
      cases e1 : keyA d with
      | none => rw [e1] at h; cases h
      | some k =>
        rw [e1] at h
        cases e2 : keyL ds with
        | none => rw [e2] at h; cases h
        | some ks' =>
          rw [e2] at h
          cases h
          rw [keyA_V e1 r1, keyL_V e2 r2]; rfl
theorem keyD_V {G : Hp} {v : V} {d : PD} {k : List Key} (h : keyD d = some k) (r : Rp G v d) : ∃ b, v = .ref b ∧ G b = some (.tup (k.map kV)) := by
  cases r with
  | tup r1 r2 => exact ⟨_, rfl, by rw [r1, keyL_V h r2]⟩
  | _ => cases h
section
variable {κ α : Type} [DecidableEq κ]
def valG (kvs : List (κ × α)) (k : κ) : Option α := (kvs.find? fun kv => decide (kv.1 = k)).map (·.2)
def putG (kvs : List (κ × α)) (k : κ) (v : α) : List (κ × α) :=
  if (kvs.any fun kv => decide (kv.1 = k)) = true then kvs.map (fun kv => if kv.1 = k then (kv.1, v) else kv) else kvs ++ [(k, v)]
def mrgG (kvs more : List (κ × α)) : List (κ × α) := more.foldl (fun acc kv => putG acc kv.1 kv.2) kvs
theorem length_putG (kvs : List (κ × α)) (k : κ) (v : α) : (putG kvs k v).length ≤ kvs.length + 1 := by
  unfold putG; split <;> simp
def KvR (G : Hp) (kv : List (κ × V)) (kvs : List (κ × PD)) : Prop := kv.map (·.1) = kvs.map (·.1) ∧ RpL G (kv.map (·.2)) (kvs.map (·.2))
omit [DecidableEq κ] in
theorem KvR.nil {G : Hp} : KvR (κ := κ) G [] [] := ⟨rfl, .nil⟩
omit [DecidableEq κ] in
theorem KvR.cons {G : Hp} {k : κ} {v : V} {d : PD} {kv : List (κ × V)} {kvs : List (κ × PD)} (h : Rp G v d) (t : KvR G kv kvs) : KvR G ((k, v) :: kv) ((k, d) :: kvs) := ⟨by simp [t.1], .cons h t.2⟩
omit [DecidableEq κ] in
theorem KvR.uncons {G : Hp} {p : κ × V} {q : κ × PD} {kv : List (κ × V)} {kvs : List (κ × PD)} (h : KvR G (p :: kv) (q :: kvs)) : p.1 = q.1 ∧ Rp G p.2 q.2 ∧ KvR G kv kvs := by
  obtain ⟨h1, h2⟩ := h
  simp only [List.map_cons, List.cons.injEq] at h1
  cases h2 with
  | cons a b => exact ⟨h1.1, a, h1.2, b⟩
omit [DecidableEq κ] in
theorem KvR.len {G : Hp} {kv : List (κ × V)} {kvs : List (κ × PD)} (h : KvR G kv kvs) : kv.length = kvs.length := by
  have := congrArg List.length h.1
  simpa using this
theorem KvR.val {G : Hp} (k : κ) : ∀ {kv : List (κ × V)} {kvs : List (κ × PD)}, KvR G kv kvs → (valG kvs k = none ∧ valV kv k = none) ∨ ∃ d v, valG kvs k = some d ∧ valV kv k = some v ∧ Rp G v d
  | [], [], _ => .inl ⟨rfl, rfl⟩
  | [], _ :: _, h => by have := h.len; simp at this
  | _ :: _, [], h => by have := h.len; simp at this
  | p :: kv, q :: kvs, h => by
    obtain ⟨h1, h2, h3⟩ := h.uncons
    by_cases e : p.1 = k
    · have e' : q.1 = k := h1.symm.trans e
      exact .inr ⟨q.2, p.2, by simp [valG, List.find?_cons, e'], valV_pos e, h2⟩
    · have e' : ¬ q.1 = k := fun z => e (h1.trans z)
      have a : valG (q :: kvs) k = valG kvs k := by simp [valG, List.find?_cons, e']
      rw [a, valV_neg e]
      exact KvR.val k h3
theorem KvR.put {G : Hp} {kv : List (κ × V)} {kvs : List (κ × PD)} (h : KvR G kv kvs) (k : κ) {v : V} {d : PD} (r : Rp G v d) : KvR G (putK kv k v) (putG kvs k d) := by
  have ea : (kv.any fun kv => decide (kv.1 = k)) = (kvs.any fun kv => decide (kv.1 = k)) := by
    have := congrArg (fun l : List κ => l.any fun x => decide (x = k)) h.1
    simpa [List.any_map, Function.comp_def] using this
  unfold putK putG
  rw [ea]
  split
  · rename_i hany
    clear hany ea
    induction kv generalizing kvs with
    | nil =>
      cases kvs with
      | nil => exact KvR.nil
      | cons _ _ => have := h.len; simp at this
    | cons p kv ih =>
      cases kvs with
      | nil => have := h.len; simp at this
      | cons q kvs =>
        obtain ⟨h1, h2, h3⟩ := h.uncons
        rw [List.map_cons, List.map_cons]
        obtain ⟨p1, p2⟩ := p
        obtain ⟨q1, q2⟩ := q
        have h1 : p1 = q1 := h1
        subst h1
        by_cases e : p1 = k
        · simp only [e, if_true]
          exact KvR.cons r (by simpa using ih h3)
        · simp only [e, if_false]
          exact KvR.cons h2 (by simpa using ih h3)
  · refine ⟨by simp [h.1], ?_⟩
    rw [List.map_append, List.map_append]
    exact h.2.append (.one r)
end
theorem KvR.mrgT {G : Hp} : ∀ {more : List (List Key × V)} {more' : List (List Key × PD)}, KvR G more more' → ∀ {kv : List (List Key × V)} {kvs : List (List Key × PD)}, KvR G kv kvs → KvR G (mergeT kv more) (mrgG kvs more')
  | [], [], _, _, _, h => h
  | [], _ :: _, m, _, _, _ => by have := m.len; simp at this
  | _ :: _, [], m, _, _, _ => by have := m.len; simp at this
  | p :: more, q :: more', m, kv, kvs, h => by
    obtain ⟨h1, h2, h3⟩ := m.uncons
    have := KvR.mrgT h3 (h.put p.1 h2)
    unfold mergeT mrgG at this ⊢
    rw [List.foldl_cons, List.foldl_cons, ← h1]
    exact this
theorem KvR.mrgK {G : Hp} : ∀ {more : List (Key × V)} {more' : List (Key × PD)}, KvR G more more' → ∀ {kv : List (Key × V)} {kvs : List (Key × PD)}, KvR G kv kvs → KvR G (mergeK kv more) (mrgG kvs more')
  | [], [], _, _, _, h => h
  | [], _ :: _, m, _, _, _ => by have := m.len; simp at this
  | _ :: _, [], m, _, _, _ => by have := m.len; simp at this
  | p :: more, q :: more', m, kv, kvs, h => by
    obtain ⟨h1, h2, h3⟩ := m.uncons
    have := KvR.mrgK h3 (h.put p.1 h2)
    unfold mergeK mrgG at this ⊢
    rw [List.foldl_cons, List.foldl_cons, ← h1]
    exact this
/-! ### looking things up -/
def dGetO : R → R → Option (Option PD)
  | .T _ kvs, .d y => (keyD y).map (valG kvs)
  | .M _ kvs, .d y => (keyA y).map (valG kvs)
  | _, _ => none
theorem dGetO_ok {H G : Hp} {x y : V} {rd ry : R} {o : Option PD} (s : Same G H) (rrd : Rr w H G x rd) (rry : Rr w H G y ry) (h : dGetO rd ry = some o) :
    ∃ a o', x = .ref a ∧ IsD H a ∧ DGet H a y o' ∧ ((o = none ∧ o' = none) ∨ ∃ d v, o = some d ∧ o' = some v ∧ Rp G v d) := by
  unfold dGetO at h
  split at h
  · rename_i b kvs y'
    obtain ⟨k, hk, e⟩ := Option.map_eq_some_iff.mp h
    obtain ⟨p, kv, rfl, _, hp, e1, e2⟩ := rrd
    obtain ⟨c, rfl, hc⟩ := keyD_V hk rry
    refine ⟨p, valV kv k, rfl, .inr ⟨kv, .inl hp⟩, DGet.t hp (s _ _ hc), ?_⟩
    rcases KvR.val k (⟨e1, e2⟩ : KvR G kv kvs) with ⟨a, b⟩ | ⟨d, v, a, b, r⟩
    · exact .inl ⟨by rw [← e, a], b⟩
    · exact .inr ⟨d, v, by rw [← e, a], b, r⟩
  · rename_i b kvs y'
    obtain ⟨k, hk, e⟩ := Option.map_eq_some_iff.mp h
    obtain ⟨p, kv, rfl, _, hp, e1, e2⟩ := rrd
    obtain rfl := keyA_V hk rry
    refine ⟨p, valV kv k, rfl, .inl ⟨kv, .inl hp⟩, DGet.k hp, ?_⟩
    rcases KvR.val k (⟨e1, e2⟩ : KvR G kv kvs) with ⟨a, b⟩ | ⟨d, v, a, b, r⟩
    · exact .inl ⟨by rw [← e, a], b⟩
    · exact .inr ⟨d, v, by rw [← e, a], b, r⟩
  · cases h
def dGetI : Op := fun d y => match dGetO d y with
  | some (some x) => .ok (.d x)
  | _ => .error .stuck
def dIn (neg : Bool) : Op := fun y d => match dGetO d y with
  | some o => .ok (.d (.bool (xor neg o.isSome)))
  | none => .error .stuck
def dGet1 : Op := fun d y => match dGetO d y with
  | some o => .ok (.d (o.getD .none))
  | none => .error .stuck
theorem dGetI_tame : Tame dGetI := fun a b x i h => by
  unfold dGetI at h; split at h <;> cases h
theorem dIn_tame {neg : Bool} : Tame (dIn neg) := fun a b x i h => by
  unfold dIn at h; split at h <;> cases h
theorem dGet1_tame : Tame dGet1 := fun a b x i h => by
  unfold dGet1 at h; split at h <;> cases h
section
variable {X : Cx} {a b c e i o : Expr} {es : List Expr} {pos p : Pos} {fa fb fc : Sl → M R}
theorem dGetS : OpS w (fun x y H Q => ∃ a v, x = V.ref a ∧ DGet H a y (some v) ∧ Q v H) dGetI := fun H G v1 v2 r1 r2 Q s rr1 rr2 h => by
  unfold dGetI at h
  split at h
  · rename_i x e
    obtain ⟨a, o', rfl, _, g, z⟩ := dGetO_ok s rr1 rr2 e
    rcases z with ⟨z, _⟩ | ⟨d, v, z1, rfl, r⟩
    · cases z
    · cases z1
      exact ⟨a, v, rfl, g, h.done s r (Fr.no rfl)⟩
  · exact h.elim
theorem dInS : OpS w (fun y x H Q => ∃ a o, x = V.ref a ∧ DGet H a y o ∧ Q (.bl o.isSome) H) (dIn false) := fun H G v1 v2 r1 r2 Q s rr1 rr2 h => by
  unfold dIn at h
  split at h
  · rename_i x e
    obtain ⟨a, o', rfl, _, g, z⟩ := dGetO_ok s rr2 rr1 e
    refine ⟨a, o', rfl, g, h.done s ?_ (Fr.no rfl)⟩
    rcases z with ⟨z, rfl⟩ | ⟨d, v, z1, rfl, r⟩
    · subst z; exact .bl _
    · subst z1; exact .bl _
  · exact h.elim
theorem dNinS : OpS w (fun y x H Q => ∃ a o, x = V.ref a ∧ DGet H a y o ∧ Q (.bl (!o.isSome)) H) (dIn true) := fun H G v1 v2 r1 r2 Q s rr1 rr2 h => by
  unfold dIn at h
  split at h
  · rename_i x e
    obtain ⟨a, o', rfl, _, g, z⟩ := dGetO_ok s rr2 rr1 e
    refine ⟨a, o', rfl, g, h.done s ?_ (Fr.no rfl)⟩
    rcases z with ⟨z, rfl⟩ | ⟨d, v, z1, rfl, r⟩
    · subst z; exact .bl _
    · subst z1; exact .bl _
  · exact h.elim
theorem xe_dget (ok : w.Ok) (hu : X.A.units + 1 < cLine) (ha : PE X o (rdE w W fa)) (hb : PE X i (rdE w W fb)) (hs : NoSl i := by exact fun _ _ => rfl) : PE X (.Subscript o i pos) (rdE w W (eOp dGetI fa fb)) :=
  PEi (pe_dget hu ha hb hs) (rd_op ok dGetS dGetI_tame)
theorem xe_din (ok : w.Ok) (hu : X.A.units + 1 < cLine) (ha : PE X i (rdE w W fa)) (hb : PE X o (rdE w W fb)) (hm : behindInMarks .In o = false := by first | rfl | with_unfolding_all rfl) : PE X (.Compare i [.In] [o] pos) (rdE w W (eOp (dIn false) fa fb)) :=
  PEi (pe_cmp (pc_din hu ha hb) hm) (rd_op ok dInS dIn_tame)
theorem xe_dnin (ok : w.Ok) (hu : X.A.units + 1 < cLine) (ha : PE X i (rdE w W fa)) (hb : PE X o (rdE w W fb)) (hm : behindInMarks .NotIn o = false := by first | rfl | with_unfolding_all rfl) : PE X (.Compare i [.NotIn] [o] pos) (rdE w W (eOp (dIn true) fa fb)) :=
  PEi (pe_cmp (pc_dnotin hu ha hb) hm) (rd_op ok dNinS dIn_tame)
theorem xt_din (ok : w.Ok) (hu : X.A.units + 1 < cLine) (ha : PE X i (rdE w W fa)) (hb : PE X o (rdE w W fb)) (hm : behindInMarks .In o = false := by first | rfl | with_unfolding_all rfl) : PT X (.Compare i [.In] [o] pos) (rdT w W (tV (eOp (dIn false) fa fb))) :=
  PTi (pt_cmp (pc_din hu ha hb) hm) fun σ H Q h => rd_op ok dInS dIn_tame σ H _ (rd_tV ok σ H Q h)
theorem xt_dnin (ok : w.Ok) (hu : X.A.units + 1 < cLine) (ha : PE X i (rdE w W fa)) (hb : PE X o (rdE w W fb)) (hm : behindInMarks .NotIn o = false := by first | rfl | with_unfolding_all rfl) : PT X (.Compare i [.NotIn] [o] pos) (rdT w W (tV (eOp (dIn true) fa fb))) :=
  PTi (pt_cmp (pc_dnotin hu ha hb) hm) fun σ H Q h => rd_op ok dNinS dIn_tame σ H _ (rd_tV ok σ H Q h)
def R.isD : R → Bool
  | .T _ _ => true
  | .M _ _ => true
  | _ => false
def eG1 (fa fb : Sl → M R) : Sl → M R := fun env => (fa env).bind fun d => if d.isD then (fb env).bind fun y => dGet1 d y else .error .stuck
theorem xe_dget1 {apos : Pos} (ok : w.Ok) (hu : X.A.units + 1 < cLine) (ha : PE X o (rdE w W fa)) (hb : PE X e (rdE w W fb)) (m : M1 X o "get" apos e pos) : PE X (.Call (.Attribute o "get" apos) [e] [] pos) (rdE w W (eG1 fa fb)) := by
  refine PEi (pe_dget1 hu ha hb m) fun σ H Q h => ?_
  obtain ⟨H0, B, env, G, g, x, h⟩ := h
  refine rdE_bind ok g x h fun r1 v1 H1 G1 g1 rr1 _ g01 x1 h1 => ?_
  have hd : r1.isD = true ∧ ∃ p, v1 = .ref p ∧ IsD H1 p := by
    cases r1 with
    | T b kvs => obtain ⟨p, kv, rfl, _, hp, _⟩ := rr1; exact ⟨rfl, p, rfl, .inr ⟨kv, .inl hp⟩⟩
    | M b kvs => obtain ⟨p, kv, rfl, _, hp, _⟩ := rr1; exact ⟨rfl, p, rfl, .inl ⟨kv, .inl hp⟩⟩
    | _ => exact h1.elim
  rw [if_pos hd.1] at h1
  obtain ⟨_, p, rfl, hd⟩ := hd
  refine ⟨p, rfl, hd, ?_⟩
  refine rdE_bind ok g01 x1 h1 fun r2 v2 H2 G2 g2 rr2 _ g02 x2 h2 => ?_
  have h2 := h2.o (dGet1_tame _ _)
  unfold dGet1 at h2
  split at h2
  · rename_i oo e
    obtain ⟨a, o', e1, _, g', z⟩ := dGetO_ok g2.s (rr1.mono ok g2) rr2 e
    cases e1
    refine ⟨o', g', ?_⟩
    rcases z with ⟨z, rfl⟩ | ⟨d, v, z1, rfl, r⟩
    · subst z; exact h2.done g2.s .non (Fr.no rfl)
    · subst z1; exact h2.done g2.s r (Fr.no rfl)
  · exact h2.elim
end
end Vs
end
section
namespace Vs
open PySem PySem.Spec PyProof.Rows L2

variable {w : Wd} {W : WX}
/-! ### dict(..) of a list of pairs -/
def prsT? : List PD → Option (List (List Key × PD))
  | [] => some []
  | .tuple [k, d] :: r => (keyD k).bind fun ks => (prsT? r).bind fun m => some ((ks, d) :: m)
  | _ => none
def prsM? : List PD → Option (List (Key × PD))
  | [] => some []
  | .tuple [k, d] :: r => (keyA k).bind fun ks => (prsM? r).bind fun m => some ((ks, d) :: m)
  | _ => none
def oDictT : R → M R := fun r => match r.sq? with
  | some xs => (match prsT? xs with
    | some kvs => .ok (.T true (mrgG [] kvs))
    | none => .error .stuck)
  | none => .error .stuck
def oDictM : R → M R := fun r => match r.sq? with
  | some xs => (match prsM? xs with
    | some kvs => .ok (.M true (mrgG [] kvs))
    | none => .error .stuck)
  | none => .error .stuck
theorem oDictT_tame (r : R) (x : Str) (i : Option Int) : oDictT r ≠ .error (.exc x i) := fun e => by
  unfold oDictT at e; split at e
  · split at e <;> cases e
  · cases e
theorem oDictM_tame (r : R) (x : Str) (i : Option Int) : oDictM r ≠ .error (.exc x i) := fun e => by
  unfold oDictM at e; split at e
  · split at e <;> cases e
  · cases e
theorem prsT_V {K : PySem.W.Frag} {G H : Hp} (s : Same G H) : ∀ {xs : List PD} {vs : List V} {kvs : List (List Key × PD)}, prsT? xs = some kvs → RpL G vs xs →
    ∃ L : List (Addr × Addr × (List Key × V)), vs = L.map (fun x => V.ref x.1) ∧ (∀ x ∈ L, SqT K H x.1 [.ref x.2.1, x.2.2.2] ∧ H x.2.1 = some (.tup (x.2.2.1.map kV))) ∧ KvR G (L.map (·.2.2)) kvs
  | [], _, kvs, h, r => by
    cases r
    have : kvs = [] := by simpa [prsT?] using h.symm
    subst this
    exact ⟨[], rfl, by simp, KvR.nil⟩
  | d :: xs, _, kvs, h, r => by
    cases r with
    | cons r1 r2 =>
      unfold prsT? at h
      split at h
      · rename_i h' ; cases h'
      · rename_i k y r' h'
        cases h'
        cases e1 : keyD k with
        | none => rw [e1] at h; cases h
        | some ks =>
          rw [e1] at h
          cases e2 : prsT? xs with
          | none => rw [e2] at h; cases h
          | some m =>
            rw [e2] at h
            cases h
            obtain ⟨L, e3, h4, h5⟩ := prsT_V (K := K) s e2 r2
            cases r1 with
            | tup t1 t2 =>
              cases t2 with
              | cons a1 a2 =>
                cases a2 with
                | cons b1 b2 =>
                  cases b2
                  obtain ⟨b, rfl, hb⟩ := keyD_V e1 a1
                  refine ⟨(_, b, (ks, _)) :: L, by rw [e3]; rfl, fun x hx => ?_, KvR.cons b1 h5⟩
                  rcases List.mem_cons.mp hx with rfl | hx
                  · exact ⟨SqT.of (s _ _ t1), s _ _ hb⟩
                  · exact h4 x hx
      · cases h
theorem prsM_V {K : PySem.W.Frag} {G H : Hp} (s : Same G H) : ∀ {xs : List PD} {vs : List V} {kvs : List (Key × PD)}, prsM? xs = some kvs → RpL G vs xs →
    ∃ (ps : List Addr) (kv : List (Key × V)), vs = ps.map V.ref ∧ Paired (fun p kv => SqT K H p [kV kv.1, kv.2]) ps kv ∧ KvR G kv kvs
  | [], _, kvs, h, r => by
    cases r
    have : kvs = [] := by simpa [prsM?] using h.symm
    subst this
    exact ⟨[], [], rfl, .nil, KvR.nil⟩
  | d :: xs, _, kvs, h, r => by
    cases r with
    | cons r1 r2 =>
      unfold prsM? at h
      split at h
      · rename_i h' ; cases h'
      · rename_i k y r' h'
        cases h'
        cases e1 : keyA k with
        | none => rw [e1] at h; cases h
        | some ks =>
          rw [e1] at h
          cases e2 : prsM? xs with
          | none => rw [e2] at h; cases h
          | some m =>
            rw [e2] at h
            cases h
            obtain ⟨ps, kv, e3, h4, h5⟩ := prsM_V (K := K) s e2 r2
            cases r1 with
            | tup t1 t2 =>
              cases t2 with
              | cons a1 a2 =>
                cases a2 with
                | cons b1 b2 =>
                  cases b2
                  obtain rfl := keyA_V e1 a1
                  exact ⟨_ :: ps, (ks, _) :: kv, by rw [e3]; rfl, .cons (SqT.of (s _ _ t1)) h4, KvR.cons b1 h5⟩
      · cases h
theorem PostO.mkTd {H G : Hp} {kvs : List (List Key × PD)} {kv : List (List Key × V)} {Q : VK} (h : PostO w H G (.ok (.T true kvs)) Q) (s : Same G H) (r : KvR G kv kvs) : ∀ p, H p = none → Q (.ref p) (upd H p (.dT kv)) := fun p hp =>
  h (.ref p) _ G (Grow.own s hp) ⟨p, kv, rfl, s.free hp, upd_same, r.1, r.2⟩ fun _ q e => by cases e; exact hp
theorem PostO.mkMd {H G : Hp} {kvs : List (Key × PD)} {kv : List (Key × V)} {Q : VK} (h : PostO w H G (.ok (.M true kvs)) Q) (s : Same G H) (r : KvR G kv kvs) : ∀ p, H p = none → Q (.ref p) (upd H p (.dK kv)) := fun p hp =>
  h (.ref p) _ G (Grow.own s hp) ⟨p, kv, rfl, s.free hp, upd_same, r.1, r.2⟩ fun _ q e => by cases e; exact hp
section
variable {X : Cx}
theorem dictTS {K : PySem.W.Frag} (hK : K = w.K) : CallS w (fun xs H Q => ∃ (a : Addr) (L : List (Addr × Addr × (List Key × V))), xs = [.ref a] ∧ SqL K H a (L.map fun x => V.ref x.1) ∧
    (∀ x ∈ L, SqT K H x.1 [.ref x.2.1, x.2.2.2] ∧ H x.2.1 = some (.tup (x.2.2.1.map kV))) ∧ ∀ p, H p = none → Q (.ref p) (upd H p (.dT (mergeT [] (L.map (·.2.2)))))) (one1 oDictT) := by
  subst hK
  refine oneS fun H G v y Q s rr h => ?_
  unfold oDictT at h
  split at h
  · rename_i xs e1
    split at h
    · rename_i kvs e2
      obtain ⟨p, vs, rfl, hq, hr⟩ := rr.sq s e1
      obtain ⟨L, rfl, h4, h5⟩ := prsT_V (K := w.K) s e2 hr
      exact ⟨p, L, rfl, hq, h4, h.mkTd s (KvR.mrgT h5 KvR.nil)⟩
    · exact h.elim
  · exact h.elim
theorem dictMS {K : PySem.W.Frag} (hK : K = w.K) : CallS w (fun xs H Q => ∃ (a : Addr) (ps : List Addr) (kvs : List (Key × V)), xs = [.ref a] ∧ SqL K H a (ps.map V.ref) ∧ Paired (fun p kv => SqT K H p [kV kv.1, kv.2]) ps kvs ∧
    ∀ p, H p = none → Q (.ref p) (upd H p (.dK (mergeK [] kvs)))) (one1 oDictM) := by
  subst hK
  refine oneS fun H G v y Q s rr h => ?_
  unfold oDictM at h
  split at h
  · rename_i xs e1
    split at h
    · rename_i kvs e2
      obtain ⟨p, vs, rfl, hq, hr⟩ := rr.sq s e1
      obtain ⟨ps, kv, rfl, h4, h5⟩ := prsM_V (K := w.K) s e2 hr
      exact ⟨p, ps, kv, rfl, hq, h4, h.mkMd s (KvR.mrgK h5 KvR.nil)⟩
    · exact h.elim
  · exact h.elim
/-! ### sorted(d) -/
def prsK? : List (List Key) → Option (List (Int × Int))
  | [] => some []
  | [.inl i, .inl j] :: r => (prsK? r).bind fun m => some ((i, j) :: m)
  | _ => none
theorem prsK_eq : ∀ {ks : List (List Key)} {ps : List (Int × Int)}, prsK? ks = some ps → ks = ps.map fun p => [Sum.inl p.1, Sum.inl p.2]
  | [], ps, h => by
    have : ps = [] := by simpa [prsK?] using h.symm
    subst this; rfl
  | k :: ks, ps, h => by
    unfold prsK? at h
    split at h
    · rename_i h'; cases h'
    · rename_i i j r h'
      cases h'
      cases e2 : prsK? ks with
      | none => rw [e2] at h; cases h
      | some m =>
        rw [e2] at h
        cases h
        rw [prsK_eq e2]; rfl
    · cases h
theorem prsK_of : ∀ ps : List (Int × Int), prsK? (ps.map fun p => [Sum.inl p.1, Sum.inl p.2]) = some ps
  | [] => rfl
  | p :: ps => by simp [prsK?, prsK_of ps]
def oSortD : R → M R := fun r => match r with
  | .T _ kvs => (match prsK? (kvs.map (·.1)) with
    | some ps => .ok (.l true ((sortP ps).map prD))
    | none => .error .stuck)
  | _ => .error .stuck
theorem oSortD_tame (r : R) (x : Str) (i : Option Int) : oSortD r ≠ .error (.exc x i) := fun e => by
  unfold oSortD at e; split at e
  · split at e <;> cases e
  · cases e
/-- the key tuples may be for good -/
theorem Grow.keys {H G : Hp} {vs : List V} {q : Addr} {o : HO} (s : Same G H) (hq : H q = none) (ht : ∀ b, V.ref b ∈ vs → ∃ xs, H b = some (.tup xs)) : Grow H G (upd H q o) (addTo G H vs) :=
  ⟨Same.new hq, addTo_g, (addTo_h s).trans (Same.new hq), fun b o' hf hn hb => by
    by_cases m : V.ref b ∈ vs
    · obtain ⟨xs, e⟩ := ht b m
      rw [e] at hb
      cases hb
      cases hf
    · exact addTo_out m hn⟩
theorem addTo_at {H G : Hp} {vs : List V} {b : Addr} {o : HO} (s : Same G H) (m : V.ref b ∈ vs) (e : H b = some o) : addTo G H vs b = some o := by
  cases g : G b with
  | none => exact addTo_in m g e
  | some o' =>
    have := s _ _ g
    rw [e] at this
    cases this
    exact addTo_g _ _ g
theorem pairs_bs {H : Hp} : ∀ {kv : List (List Key × V)} {bs : List Addr} {ps : List (Int × Int)}, IsKeys H kv bs → kv.map (·.1) = ps.map (fun p => [Sum.inl p.1, Sum.inl p.2]) →
    (bs.map V.ref).map (pairK H) = ps ∧ ∀ b ∈ bs, ∃ i j, H b = some (.tup [.int i, .int j])
  | [], _, ps, .nil, e => by
    have : ps = [] := by simpa using e.symm
    subst this; exact ⟨rfl, by simp⟩
  | p :: kv, _, [], .cons h t, e => by simp at e
  | p :: kv, _, q :: ps, .cons (b := b) h t, e => by
    simp only [List.map_cons, List.cons.injEq] at e
    obtain ⟨h1, h2⟩ := pairs_bs t e.2
    have hb : H b = some (.tup [.int q.1, .int q.2]) := by
      have h : H b = some (.tup (p.1.map kV)) := h
      rw [e.1] at h; exact h
    refine ⟨by rw [List.map_cons, List.map_cons, h1, pairK_at hb], fun c hc => ?_⟩
    rcases List.mem_cons.mp hc with rfl | hc
    · exact ⟨_, _, hb⟩
    · exact h2 c hc
theorem RpL.ofPairs {G H : Hp} : ∀ {vs : List V}, (∀ v ∈ vs, ∃ b i j, v = .ref b ∧ H b = some (.tup [.int i, .int j]) ∧ G b = some (.tup [.int i, .int j])) → RpL G vs ((vs.map (pairK H)).map prD)
  | [], _ => .nil
  | v :: vs, h => by
    obtain ⟨b, i, j, rfl, h1, h2⟩ := h v List.mem_cons_self
    rw [List.map_cons, List.map_cons, pairK_at h1]
    exact .cons (.tup h2 (.cons (.int i) (.one (.int j)))) (RpL.ofPairs fun u hu => h u (List.mem_cons_of_mem _ hu))
theorem sortDS : CallS w (fun xs H Q => ∃ d kvs, xs = [V.ref d] ∧ Rd H d (.dT kvs) ∧ (∀ kv ∈ kvs, ∃ i j, kv.1 = [Sum.inl i, Sum.inl j]) ∧
    ∀ p bs ys, H p = none → IsKeys H kvs bs → SrtO.Srtd (ltP (pairK H)) ys → SrtO.Stb (ltP (pairK H)) ys (bs.map V.ref) → Q (.ref p) (upd H p (.lst ys))) (one1 oSortD) := by
  refine oneS fun H G v y Q s rr h => ?_
  unfold oSortD at h
  split at h
  · rename_i b kvs
    split at h
    · rename_i ps e1
      obtain ⟨p, kv, rfl, hn, hp, k1, k2⟩ := rr
      have e2 := prsK_eq e1
      rw [← k1] at e2
      refine ⟨p, kv, rfl, .inl hp, fun x hx => ?_, fun q bs ys hq hk hs hb => ?_⟩
      · have : x.1 ∈ kv.map (·.1) := List.mem_map_of_mem hx
        rw [e2] at this
        obtain ⟨z, _, e⟩ := List.mem_map.mp this
        exact ⟨z.1, z.2, e.symm⟩
      · obtain ⟨m1, m2⟩ := pairs_bs hk e2
        have hperm : ys.Perm (bs.map V.ref) := hb.perm
        have hy : ∀ v ∈ ys, ∃ b i j, v = .ref b ∧ H b = some (.tup [.int i, .int j]) ∧ addTo G H (bs.map V.ref) b = some (.tup [.int i, .int j]) := fun v hv => by
          have hm := hperm.mem_iff.mp hv
          obtain ⟨b, hb, rfl⟩ := List.mem_map.mp hm
          obtain ⟨i, j, e⟩ := m2 b hb
          exact ⟨b, i, j, rfl, e, addTo_at s hm e⟩
        have e : ys.map (pairK H) = sortP ps := by
          refine rise_uniq leP_anti ((hperm.map (pairK H)).trans (by rw [m1]; exact (sortP_perm ps).symm)) ?_ (sortP_pw ps)
          refine List.pairwise_map.mpr (hs.imp fun {a b} h => ?_)
          have h : SrtO.lexB (pairK H b) (pairK H a) = false := h
          unfold SrtO.lexB at h
          unfold leP
          simp only [Bool.or_eq_true, Bool.and_eq_true, decide_eq_true_eq]
          split at h
          · have := of_decide_eq_false h
            omega
          · have := of_decide_eq_false h
            omega
        have hz := RpL.ofPairs hy
        rw [e] at hz
        refine h (.ref q) _ (addTo G H (bs.map V.ref)) (Grow.keys s hq fun b hb => ?_) ⟨q, ys, rfl, addTo_out (fun m => ?_) (s.free hq), upd_same, hz⟩ fun _ q' e => by cases e; exact hq
        · obtain ⟨b', hb', e⟩ := List.mem_map.mp hb
          cases e
          obtain ⟨i, j, e⟩ := m2 _ hb'
          exact ⟨_, e⟩
        · obtain ⟨b', hb', e⟩ := List.mem_map.mp m
          cases e
          obtain ⟨i, j, e⟩ := m2 _ hb'
          rw [hq] at e; cases e
    · exact h.elim
  · exact h.elim
end
end Vs
end
section
namespace Vs
open PySem PySem.Spec PyProof.Rows L2

variable {w : Wd} {W : WX}
theorem room3 {k : Nat} {A : Around} (hr : Room k A) : A.units + 3 < cLine := by have := hr.un; omega
/-! ### d[k] = e, d a slot's dict -/
def dputR (r k : R) (d : PD) : Option R := match r, k with
  | .T _ kvs, .d y => if kvs.length < big then (keyD y).map fun ks => .T false (putG kvs ks d) else none
  | .M _ kvs, .d y => if kvs.length < big then (keyA y).map fun ks => .M false (putG kvs ks d) else none
  | _, _ => none
def isDi (i : Nat) (env : Sl) : Bool := match env[i]? with
  | some (some r) => r.isD
  | _ => false
def dputS (i : Nat) (k : R) (d : PD) (env : Sl) : M Sl := match env[i]? with
  | some (some r) => (match dputR r k d with
    | some r' => .ok (env.set i (some r'))
    | none => .error .stuck)
  | _ => .error .stuck
def sDp (i : Nat) (fk fv : Sl → M R) : Sl → M Oc := fun env => if isDi i env then (fv env).bind fun r => (dat r).bind fun d => (fk env).bind fun k => nxS (dputS i k d env) else .error .stuck
theorem isDi_some {i : Nat} {env : Sl} (h : isDi i env = true) : ∃ r, env[i]? = some (some r) ∧ r.isD = true := by
  unfold isDi at h
  split at h
  · rename_i r e; exact ⟨r, e, h⟩
  · cases h
theorem isD_own {r : R} (h : r.isD = true) : r.own = true := by cases r <;> first | rfl | cases h
theorem dputR_ok {H G : Hp} {p : Addr} {r r' k : R} {y v : V} {d : PD} (s : Same G H) (hr : Rr w H G (.ref p) r) (hk : Rr w H G y k) (hd : Rp G v d) (h : dputR r k d = some r') :
    r'.held = r' ∧ r'.own = true ∧ r'.isO = false ∧ ∃ o, DPut H p y v (upd H p o) ∧ Rr w (upd H p o) G (.ref p) r' := by
  unfold dputR at h
  split at h
  · split at h
    · rename_i b kvs z hz
      obtain ⟨ks, e1, rfl⟩ := Option.map_eq_some_iff.mp h
      obtain ⟨q, kv, e2, n, hp, k1, k2⟩ := hr
      cases e2
      obtain ⟨c, rfl, hc⟩ := keyD_V e1 hk
      have hl : kv.length < sizeLine := by rw [KvR.len (show KvR G kv kvs from ⟨k1, k2⟩)]; exact Nat.lt_of_lt_of_le hz (by decide)
      have := KvR.put (⟨k1, k2⟩ : KvR G kv kvs) ks hd
      exact ⟨rfl, rfl, rfl, _, DPut.t hp (s _ _ hc) hl, p, _, rfl, n, upd_same, this.1, this.2⟩
    · cases h
  · split at h
    · rename_i b kvs z hz
      obtain ⟨ks, e1, rfl⟩ := Option.map_eq_some_iff.mp h
      obtain ⟨q, kv, e2, n, hp, k1, k2⟩ := hr
      cases e2
      obtain rfl := keyA_V e1 hk
      have hl : kv.length < sizeLine := by rw [KvR.len (show KvR G kv kvs from ⟨k1, k2⟩)]; exact Nat.lt_of_lt_of_le hz (by decide)
      have := KvR.put (⟨k1, k2⟩ : KvR G kv kvs) ks hd
      exact ⟨rfl, rfl, rfl, _, DPut.k hp hl, p, _, rfl, n, upd_same, this.1, this.2⟩
    · cases h
  · cases h
section
variable {X : Cx} {a b c e i o : Expr} {es : List Expr} {pos p : Pos} {fe fk : Sl → M R}
theorem xs_dput (i : Nat) {x : Str} {ek : Expr} {p1 ps : Pos} (ok : w.Ok) (hu : X.A.units + 1 < cLine) (hx : PE X (.Name x p1) (tVar i)) (hk : PE X ek (rdE w W fk)) (he : PE X e (rdE w W fe))
    (hs : swapsWith e (some (.Subscript (.Name x p1) ek ps)) pos.line X.env = pure false := by rfl) : PS X (.Assign [.Subscript (.Name x p1) ek ps] e pos) (rdS w W (sDp i fk fe)) := by
  refine PSi (ps_dput hu hx hk he hs) fun D σ H h => ?_
  obtain ⟨H0, B, env, G, g, x, h⟩ := h
  unfold sDp at h
  split at h
  · rename_i hl
    obtain ⟨r0, e1, hd0⟩ := isDi_some hl
    obtain ⟨p, hv, n0, nG, rr, gw, wr⟩ := x.write e1 (isD_own hd0)
    refine ⟨H0, B, env, G, g, x, ?_⟩
    cases e3 : fe env with
    | error er => rw [e3] at h; exact PostE.err.mpr (PostX.up g h)
    | ok r =>
      rw [e3] at h
      intro v H1 G1 g1 rv fr
      have h : PostS w W H0 B G ((dat r).bind fun d => (fk env).bind fun k => nxS (dputS i k d env)) D := h
      unfold dat at h
      cases e4 : r.dat with
      | none => rw [e4] at h; exact (h []).elim
      | some d =>
        rw [e4] at h
        obtain ⟨G2, g2, s2, rd, _⟩ := rv.lay g1 e4 fr
        have h : PostS w W H0 B G ((fk env).bind fun k => nxS (dputS i k d env)) D := h
        refine ⟨_, hv, H0, B, env, G2, g.trans g2, x.grow ok g2, ?_⟩
        cases e5 : fk env with
        | error er => rw [e5] at h; exact PostE.err.mpr (PostX.up (g.trans g2) h)
        | ok rk =>
          rw [e5] at h
          intro u H3 G3 g3 rk3 _
          have h : PostS w W H0 B G (nxS (dputS i rk d env)) D := h
          unfold dputS at h
          rw [e1] at h
          dsimp only at h
          cases e6 : dputR r0 rk d with
          | none => rw [e6] at h; exact (h []).elim
          | some r' =>
            rw [e6] at h
            obtain ⟨p2, hv2, n2, nG2, rr2, gw2, wr2⟩ := ((x.grow ok g2).grow ok g3).write e1 (isD_own hd0)
            rw [hv] at hv2
            cases hv2
            obtain ⟨hh, ho, hO, ob, hput, hrr⟩ := dputR_ok g3.s rr2 rk3 (Rp.mono g3.g _ _ rd) e6
            exact ⟨p, _, rfl, hput, h σ _ G3 (gw2 B ((g.trans g2).trans g3) _) (g2.g.trans g3.g) (wr2 _ r' hh ho hrr hO)⟩
  · exact (h []).elim
/-! ### {}; list(d), len(d) -/
def eD0T : Sl → M R := fun _ => .ok (.T true [])
def eD0M : Sl → M R := fun _ => .ok (.M true [])
theorem xe_d0T : PE X (.Dict [] [] pos) (rdE w W eD0T) := PEi pe_dnewT fun σ H Q ⟨_, _, _, G, g, _, h⟩ p hp =>
  h (.ref p) _ G (Grow.own g.s hp) ⟨p, [], rfl, g.s.free hp, upd_same, rfl, .nil⟩ fun _ q e => by cases e; exact hp
theorem xe_d0M : PE X (.Dict [] [] pos) (rdE w W eD0M) := PEi pe_dnewK fun σ H Q ⟨_, _, _, G, g, _, h⟩ p hp =>
  h (.ref p) _ G (Grow.own g.s hp) ⟨p, [], rfl, g.s.free hp, upd_same, rfl, .nil⟩ fun _ q e => by cases e; exact hp
def oLenT : R → M R := fun r => match r with
  | .T _ kvs => .ok (.d (.int kvs.length))
  | _ => .error .stuck
theorem oLenT_tame (r : R) (x : Str) (i : Option Int) : oLenT r ≠ .error (.exc x i) := fun e => by
  unfold oLenT at e; split at e <;> cases e
theorem lenTS : CallS w rLenT (one1 oLenT) := by
  refine oneS fun H G v y Q s rr h => ?_
  unfold oLenT at h
  split at h
  · rename_i b kvs
    obtain ⟨p, kv, rfl, n, hp, k1, k2⟩ := rr
    refine ⟨p, kv, rfl, hp, ?_⟩
    rw [KvR.len (show KvR G kv kvs from ⟨k1, k2⟩)]
    exact h.done s (.int _) (Fr.no rfl)
  · exact h.elim
end
end Vs
end
section
namespace Vs
open PySem PySem.Spec PyProof.Rows L2
/-! ## an exception that outlives its except clause -/
/-- a caught exception: its class, its dict -/
def ExK (cls : Value) (d : Option Addr) (a : Addr) : HO := .ext fun h => ∃ (oe : Obj) (vs : Array Value), h.get? a = some oe ∧ Zc cls d oe ∧ oe.data = .fields vs
theorem exK_ok {P : Program} {w : World} {H : Hp} {h : Heap} {a : Addr} {cls : Value} {d : Option Addr} {oe : Obj} {vs : Array Value} (e : h.get? a = some oe) (z : Zc cls d oe) (hd : oe.data = .fields vs) : ObjOk P w H h a (ExK cls d a) :=
  ⟨⟨oe, vs, e, z, hd⟩, ⟨oe, e⟩, fun _ _ ⟨o, v, q, r⟩ k => ⟨o, v, k o q, r⟩⟩
section
variable {X : Cx} {pins : List (Addr × Obj)} {σ : L2.St} {H : Hp} {s : Shared}
/-- a thing of ours, newer than the entry, is told from here on -/
theorem inv_tell {a : Addr} {o : HO} (I : Inv X pins σ H s) (new0 : X.s_0.heap.get? a = none) (na : H a = none) (nl : a ≠ X.env.locals) (nc : ∀ x c, X.env.cells.lookup x = some c → c ≠ a) (np : ∀ p ∈ X.pn ++ pins, p.1 ≠ a)
    (ho : ObjOk X.prog X.w (upd H a o) s.heap a o) : Inv X pins σ (upd H a o) s where
  ok := I.ok
  os := I.os
  bare := I.bare
  base :=
    { keep := I.base.keep
      slot := I.base.slot
      free := fun b u q n x => by
        have hb : b ≠ a := fun z => by rw [z, new0] at q; cases q
        rw [upd_ne hb]; exact I.base.free b u q n x
      there := I.base.there
      tups := fun b xs q => by have z := I.base.tups b xs q; rw [upd_ne (ne_of_none z na)]; exact z
      frzs := fun b u v q => by have z := I.base.frzs b u v q; rw [upd_ne (ne_of_none z na)]; exact z
      tbls := fun b ps q => by obtain ⟨m, z⟩ := I.base.tbls b ps q; exact ⟨m, by rw [upd_ne (ne_of_none z na)]; exact z⟩ }
  loc := I.loc
  cell := I.cell
  free := by rw [upd_ne (Ne.symm nl)]; exact I.free
  freeC := fun x c e => by rw [upd_ne (nc x c e)]; exact I.freeC x c e
  pin := fun p hp => by
    obtain ⟨e1, e2, e3⟩ := I.pin p hp
    exact ⟨e1, by rw [upd_ne (np p hp)]; exact e2, e3⟩
  hok := HOk.laidN I.hok (fun _ _ e => e) na ho
  len := I.len
/-- into the clause's suite, the exception told, not pinned -/
theorem inv_in (I : Inv X pins σ H s) (a : Addr) : Inv (X.suite a (X.pn ++ pins)) [] σ H s where
  ok := I.ok.suite a _
  os := I.os
  bare := I.bare
  base := I.base
  loc := I.loc
  cell := I.cell
  free := I.free
  freeC := I.freeC
  pin := fun p hp => I.pin p (by rw [List.append_nil] at hp; exact hp)
  hok := I.hok
  len := I.len
theorem inv_out {a : Addr} {more : List (Addr × Obj)} (I : Inv (X.suite a (X.pn ++ pins)) more σ H s) (ok : X.Ok) : Inv X pins σ H s where
  ok := ok
  os := I.os
  bare := I.bare
  base := I.base
  loc := I.loc
  cell := I.cell
  free := I.free
  freeC := I.freeC
  pin := fun p hp => I.pin p (List.mem_append_left _ hp)
  hok := I.hok
  len := I.len
end
section
variable {X : Cx} {x n : Str} {c : Value} {i : Nat} {body suite : List Stmt} {b₀ : Stmt} {np pos pos' : Pos} {tb : WX → TS} {ts : TS}
/-- what the body's exceptions are wished to be -/
def wKp (K : PySem.W.Frag) (c : Value) (l i : Nat) (ts : TS) (D : Ends) : WX := fun cls d σ H => PySem.W.exmOne K cls c = some true ∧
  ∀ a, H a = none → σ.length = l → ts { nx := fun σ' H' => D.nx (σ'.set i none) H', rt := D.rt, bk := fun σ' H' => D.bk (σ'.set i none) H', ct := fun σ' H' => D.ct (σ'.set i none) H' } (σ.set i (some (.ref a))) (upd H a (ExK cls d a))
/-- try: body except x as n: suite, where suite may keep the exception -/
theorem ps_try_keep (hs : X.stack = X.env :: X.outer) (hf : X.env.frame = some X.env.locals) (hN : X.N.Nodup) (hi : X.N[i]? = some n) (hln : X.env.kindOf n = some .local) (hc : Names X x c) (hx : X.ex = [])
    (hb : ∀ (W : WX) (pn : List (Addr × Obj)) (xe : Value → Shared → Prop), Takes (X.tr pn xe) W → PassesOwn (model X.prog X.w) X.A X.env xe → PSs (X.tr pn xe) body (tb W))
    (hsu : ∀ (a : Addr) (pn : List (Addr × Obj)), PSs (X.suite a pn) (b₀ :: suite) ts) :
    PS X (.Try body [.ExceptHandler (some (.Name x np)) (some n) (b₀ :: suite) pos'] [] [] pos) (fun D σ H => tb (wKp X.K c X.N.length i ts D) D σ H) := by
  refine ⟨fun pins s σ H D I h => wpAny_Try_except ?_⟩
  have ok := I.ok
  have frames : X.A.frames = some (X.env :: X.outer) := by rw [← hs]; exact ok.frames
  have atN : Loc X.env.scope n := .inl hln
  refine wpAny_mono ((hb (wKp X.K c X.N.length i ts D) (X.pn ++ pins) (fun ev t₁ => wpAny (model X.prog X.w) X.A (noteFrame ev X.env) (fun _ t₂ => wpAny (model X.prog X.w) X.A (setFlight ev none) (fun _ t₃ =>
      wpAny (model X.prog X.w) X.A (handleBy ev X.env [.ExceptHandler (some (.Name x np)) (some n) (b₀ :: suite) pos']) (SP X pins D) X.xe t₃) X.xe t₂) X.xe t₁)
    (fun u t caught => ?_) PassesOwn.looking).run [] s σ H D (I.toTry _) h) (fun f t done => ?_) fun _ _ q => q
  case refine_2 =>
    cases f with
    | next => obtain ⟨σ1, H1, J, q⟩ := done; exact wpAny_execs_nil ⟨σ1, H1, J.ofTry ok, q⟩
    | brk => obtain ⟨σ1, H1, J, q⟩ := done; exact ⟨σ1, H1, J.ofTry ok, q⟩
    | cont => obtain ⟨σ1, H1, J, q⟩ := done; exact ⟨σ1, H1, J.ofTry ok, q⟩
    | ret u => obtain ⟨v1, σ1, H1, J, r1, q⟩ := done; exact ⟨v1, σ1, H1, J.ofTry ok, r1, q⟩
  obtain ⟨a, B, sI, pnI, σ1, H1, cls, d, rfl, JI, ground, ups, air, na, same, still, hit, go⟩ := caught
  have JI' : Inv X pins σ1 H1 sI := JI.ofTry ok
  rw [show (X.tr (X.pn ++ pins) _).stack = X.env :: X.outer from hs] at air
  show wpAny (model X.prog X.w) X.A (noteFrame (.ref a) X.env) _ _ _
  refine Sky.land Zc.steady frames hf air fun h₁ fl₁ up₁ => ?_
  have K1 : X.K.In h₁ := (JI'.landed (s' := { t with heap := h₁ }) ground fl₁.1 (ups.trans up₁) same still).kIn
  obtain ⟨oe₁, vs₁, get₁, z₁, dat₁⟩ := fl₁.there
  refine wpAny_handleBy_cons (codeAny_handlers_test ?_) (by intro q; cases q)
  have J1 : Inv X pins σ1 H1 { t with heap := h₁ } := JI'.landed ground fl₁.1 (ups.trans up₁) same still
  have isT : PySem.W.Looks (model X.prog X.w) h₁ (typeOf (.ref a)) cls := fun A Q E s k q => wpAny_typeOf_ref (k _ _ get₁) (by rw [z₁.1]; exact q)
  have isM := PySem.W.exm_one (M := model X.prog X.w) K1 isT hit
  have asked : ∀ {Q : Value → Shared → Prop} {E : Value → Shared → Prop}, Q c { t with heap := h₁ } → wpAny (model X.prog X.w) (X.A.mark (some (.ref a))) (eval (.Name x np) X.env) Q E { t with heap := h₁ } := by
    intro Q E q
    obtain ⟨g1, g2, g3⟩ := hc
    rcases g3 with g3 | ⟨g3, g4, g5⟩
    · exact ld_glob (X := X.suite a (X.pn ++ pins)) (inv_in J1 a) g1 g3 q g2
    · exact ld_blt (X := X.suite a (X.pn ++ pins)) (inv_in J1 a) g1 g3 g4 q g5 g2
  refine asked (isM.here (codeAny_handlers_suite_as (HandSPX.lands_againZ fl₁ fun h₂ fl₂ up₂ => ?_)))
  have J2 : Inv X pins σ1 H1 { t with heap := h₂ } := JI'.landed ground fl₂.1 ((ups.trans up₁).trans up₂) same still
  obtain ⟨oe₂, vs₂, get₂, z₂, dat₂⟩ := fl₂.there
  -- where the exception is not
  have offFrames : a ∉ frs (X.env :: X.outer) := fun m => by
    obtain ⟨_, ob, eb, nf⟩ := fl₂.2.2.1.mem m
    rw [get₂] at eb
    cases eb
    exact nf _ dat₂
  have offLoc : a ≠ X.env.locals := fun z => offFrames (List.mem_filterMap.mpr ⟨X.env, List.mem_cons_self, by rw [hf, z]⟩)
  have offI : sI.heap.get? a = none := by
    cases q : sI.heap.get? a with
    | none => rfl
    | some ob =>
      have g := ground a ob q (by rw [show (X.tr (X.pn ++ pins) _).stack = X.env :: X.outer from hs]; exact offFrames)
      rw [fl₂.2.1] at g
      cases g
  have off0 : X.s_0.heap.get? a = none := by
    cases q : X.s_0.heap.get? a with
    | none => rfl
    | some ob =>
      obtain ⟨o', e⟩ := JI'.base.there a ob q (by rw [hx]; simp)
      rw [offI] at e
      cases e
  have offCells : ∀ y cc, X.env.cells.lookup y = some cc → cc ≠ a := fun y cc e z => by
    obtain ⟨v, hcell⟩ := JI'.cell y cc e
    obtain ⟨ob, e1, _⟩ := hcell
    rw [z, offI] at e1
    cases e1
  have offPins : ∀ p ∈ X.pn ++ pins, p.1 ≠ a := fun p hp z => by
    have e1 := (JI'.pin p hp).1
    rw [z, offI] at e1
    cases e1
  have J3 : Inv X pins σ1 (upd H1 a (ExK cls d a)) { t with heap := h₂ } := inv_tell J2 off0 na offLoc offCells offPins (exK_ok get₂ z₂ dat₂)
  refine store_ok (X := X.suite a (X.pn ++ pins)) (v := .ref a) (inv_in J3 a) hN hi atN rfl (fun t₄ J4 => ?_) (.inr hln)
  refine wpAny_mono ((hsu a (X.pn ++ pins)).run [] t₄ _ _ _ J4 (go a na JI'.len)) (fun f t₅ q => ?_) fun _ _ q => q.elim
  have leave : ∀ {σ₅ : L2.St} {H₅ : Hp} {Q : Shared → Prop}, Inv (X.suite a (X.pn ++ pins)) [] σ₅ H₅ t₅ → (∀ t₆, Inv X pins (σ₅.set i none) H₅ t₆ → Q t₆) →
      wpAny (model X.prog X.w) X.A (do bindName X.env n .none; unbindBehindTheSuite X.env n pos') (fun _ t₆ => Q t₆) X.xe t₅ := fun J5 k => gone_ok (inv_out J5 ok) hN hi hln k
  cases f with
  | next => obtain ⟨σ₅, H₅, J5, q⟩ := q; exact leave J5 fun t₆ J6 => ⟨_, _, J6, q⟩
  | brk => obtain ⟨σ₅, H₅, J5, q⟩ := q; exact leave J5 fun t₆ J6 => ⟨_, _, J6, q⟩
  | cont => obtain ⟨σ₅, H₅, J5, q⟩ := q; exact leave J5 fun t₆ J6 => ⟨_, _, J6, q⟩
  | ret u => obtain ⟨v₅, σ₅, H₅, J5, r5, q⟩ := q; exact leave J5 fun t₆ J6 => ⟨_, _, _, J6, r5, q⟩
end
end Vs
namespace Vs
open PySem PySem.Spec PyProof.Rows L2 PySem.W
section
variable {prog : Program} {w : World} {A : Around} {E : Value → Shared → Prop} {s : Shared} {K : Frag} {x D : Addr} {ox od : Obj}
/-- x.__class__ of an own exception, whatever its dict -/
theorem exc_class {Q : Option Value → Shared → Prop} (C : ExcC K D) (X : K.In s.heap) (I : InstAt s.heap x ox D (some od)) (h : Q (some (.ref D)) { s with toks := s.toks + 1 }) : wpAny (model prog w) A (getAttr? (.ref x) "__class__") Q E s := by
  have hf : findObj K D (some od) "__class__" = some (.bind (.builtin "getset_descriptor.__get__") (.builtin "object.__class__")) := findObj_data (by obtain ⟨cd, hc, _⟩ := any_some C.hd; rw [hc]; rfl) C.ha C.hn C.ht
  obtain ⟨hp, g, d, t, os⟩ := s
  have T0 := I.type (M := model prog w); have T1 := looks_findIn (M := model prog w) X C.hg; have T2 := looks_findIn (M := model prog w) X C.hk; have T3 := looks_find (M := model prog w) X I hf
  have up : Looks (model prog w) hp (isInstance (.ref x) (.type "BaseException")) true := T0.andThen (looks_subIn X C.hs)
  have n2 : (Value.builtin "BaseException.__getattribute__" == Value.builtin "object.__getattribute__") = false := by decide +kernel
  unfold getAttr? getAttrBy? getAttrBy
  refine wpAny_bind (wpAny_mkText (wpAny_bind (wpAny_attempt (wpAny_holding (wpAny_bind (T0.at (wpAny_bind (T1.at ?_))))))))
  have n1 : (onTheHeap (Value.ref D) && Value.builtin "BaseException.__getattribute__" == Value.builtin "object.__getattribute__") = false := by rw [n2]; rfl
  show wpAny _ _ (if (onTheHeap (Value.ref D) && Value.builtin "BaseException.__getattribute__" == Value.builtin "object.__getattribute__") = true then _ else _) _ _ _; rw [n1, if_neg Bool.false_ne_true]
  unfold getAttrByItsOwn hookBefore
  refine wpAny_bind ?_; rw [if_pos (show onTheHeap (Value.ref D) = true by rfl)]
  refine T2.at (wpAny_bind (wpAny_attempt (wpAny_holding ?_)))
  unfold callGetattribute
  rw [if_neg (show ¬ (false && onTheHeap (Value.builtin "BaseException.__getattribute__")) = true from fun z => nomatch z)]
  unfold boundAndCalled
  rw [PySem.F.excAttr_ValueError.ga.bind (.ref x)]
  refine wpAny_bind (wpAny_pure ?_); show wpAny _ _ (call (.builtin "BaseException.__getattribute__") [.ref x, .str "__class__" t]) _ _ _
  refine wpAny_call (codeAny_call_builtin PySem.F.excAttr_ValueError.ga.plain PySem.F.entry_bexc_ga (@check_slot (model prog w) _ _ ⟨hp, g, d, t + 1, os⟩ "BaseException.__getattribute__" "BaseException" "__getattribute__" (.ref x) [.str "__class__" t] [] _ (by decide +kernel) (by decide +kernel) up (PySem.F.args_bexc_ga (.ref x) (.str "__class__" t)) ?_))
  unfold Builtin.«object.__getattribute__»
  refine wpAny_bind (wpAny_of_eq (a := ((Value.ref x : Value), [Value.str "__class__" t])) (by first | rfl | (simp only [slotArgs]; rfl)) (wpAny_bind (wpAny_pure (wpAny_bind (T0.at (wpAny_bind (T3.at ?_)))))))
  show wpAny _ _ (holding [Value.builtin "object.__class__"] (call (.builtin "getset_descriptor.__get__") [.builtin "object.__class__", .ref x, .ref D]) >>= ret) _ _ _
  refine wpAny_bind (wpAny_holding (wpAny_call (class_get (s := ⟨hp, g, d, t + 1, os⟩) (ox := ox) (od := some od) X I C.hm (wpAny_pure ?_)))); show wpAny _ _ (handedOut (.ref D)) _ _ _
  rw [handedOut_of (v := .ref D) rfl]
  first | exact wpAny_pure (wpAny_pure h) | exact wpAny_pure h | exact wpAny_pure (wpAny_bind (wpAny_pure (wpAny_pure h)))
/-- what isinstance asks of it -/
theorem kitx_excD (C : ExcC K D) : KitX K (.ref x) (.ref D) (fun h => InstAt h x ox D (some od)) := by
  have Z := handS_kitx_exc (x := x) (ox := ox) C.hg C.hk C.hs C.hd C.ha C.hn C.ht C.hm
  have it : ∀ (M : Model) (h : Heap), K.In h → PySem.W.Looks M h (isType (.ref D)) true := fun M h X => by
    obtain ⟨cd, hc, _⟩ := any_some C.hd
    unfold clsIn at hc
    split at hc
    · rename_i ho
      intro A' Q' E' s' k q
      unfold isType loadHead
      exact wpAny_bind (wpAny_loadPart (k _ _ (X _ _ ho)) (wpAny_pure q))
    · cases hc
  exact ⟨fun _ _ _ I => I.type, fun M h X _ => it M h X, Z.ne, fun X I k => exc_class C X I k⟩
end
end Vs
end
section
namespace Vs
open PySem PySem.Spec PyProof.Rows L2

variable {w : Wd} {W : WX}
/-! ### own exceptions as values -/
def exoK (mg : Str → Option Value) : Str → Option Int → Addr → Hp → Prop := fun x i p G => ∃ C d, mg x = some (.ref C) ∧ G p = some (ExK (.ref C) d p) ∧ (match i with
  | none => d = none
  | some j => ∃ D, d = some D ∧ G D = some (.xd [(("at" : Str), V.int j)]))
theorem exoK_up {mg : Str → Option Value} : ∀ x i p H H', Same H H' → exoK mg x i p H → exoK mg x i p H' := by
  rintro x i p H H' s ⟨C, d, h1, h2, h3⟩
  refine ⟨C, d, h1, s _ _ h2, ?_⟩
  cases i with
  | none => exact h3
  | some j => obtain ⟨D, e, h4⟩ := h3; exact ⟨D, e, s _ _ h4⟩
/-- of the program's classes, all right under the one -/
def exSub (z t : Str) : Bool := decide (z = t) || decide (t = "SwapError")
def excCB (K : PySem.W.Frag) (D : Addr) : Bool :=
  He.eqO (PySem.W.findIn K (.ref D) "__getattribute__") (some (some (.builtin "BaseException.__getattribute__"))) && (He.eqO (PySem.W.findIn K (.ref D) "__getattr__") (some none) &&
  (decide (PySem.W.subIn K (.ref D) (.type "BaseException") = some true) && (PySem.W.hasDictIn K D && (He.eqO (PySem.W.findIn K (.ref D) "__class__") (some (some (.builtin "object.__class__"))) &&
  (He.eqO (PySem.W.specialIn K (.builtin "object.__class__") "__get__") (some (some (.builtin "getset_descriptor.__get__"))) && (decide (PySem.W.takesIn K (.builtin "object.__class__") = some true) && decide (PySem.W.mroIn K D (.type "object") = some true)))))))
theorem excCB_ok {K : PySem.W.Frag} {D : Addr} (h : excCB K D = true) : ExcC K D := by
  unfold excCB at h
  simp only [Bool.and_eq_true, decide_eq_true_eq] at h
  obtain ⟨h1, h2, h3, h4, h5, h6, h7, h8⟩ := h
  exact ⟨He.eqO_ok h1, He.eqO_ok h2, h3, h4, He.eqO_ok h5, He.eqO_ok h6, h7, h8⟩
def exB (names : List Str) (K : PySem.W.Frag) : Bool := names.all fun z => excCB K (He.ga K z) && (decide (PySem.W.kitOne K (.ref (He.ga K z)) (.type "ValueError") = some true) &&
  (decide (PySem.W.exmOne K (.ref (He.ga K z)) (.ref (He.ga K "SwapError")) = some true) && names.all fun t => decide (PySem.W.kitOne K (.ref (He.ga K z)) (.ref (He.ga K t)) = some (exSub z t))))
/-- what is known of the program's exceptions -/
structure Xs (w : Wd) (names : List Str) : Prop where
  at_ : ∀ z ∈ names, w.mg z = some (.ref (He.ga w.K z))
  top : w.mg "SwapError" = some (.ref (He.ga w.K "SwapError"))
  ok : exB names w.K = true
  exo : w.exo = exoK w.mg
section
variable {names : List Str}
theorem Xs.all (S : Xs w names) {z : Str} (hz : z ∈ names) : ExcC w.K (He.ga w.K z) ∧ PySem.W.kitOne w.K (.ref (He.ga w.K z)) (.type "ValueError") = some true ∧ PySem.W.exmOne w.K (.ref (He.ga w.K z)) (.ref (He.ga w.K "SwapError")) = some true ∧
    ∀ t ∈ names, PySem.W.kitOne w.K (.ref (He.ga w.K z)) (.ref (He.ga w.K t)) = some (exSub z t) := by
  have h := List.all_eq_true.mp S.ok z hz
  simp only [Bool.and_eq_true, decide_eq_true_eq] at h
  obtain ⟨h1, h2, h3, h4⟩ := h
  exact ⟨excCB_ok h1, h2, h3, fun t ht => of_decide_eq_true (List.all_eq_true.mp h4 t ht)⟩
variable {X : Cx} {a b c e : Expr} {es : List Expr} {pos p : Pos} {fa fe : Sl → M R}
/-- isinstance(e, c) of a told exception -/
def rIsK (K : PySem.W.Frag) (D : Addr) : List V → Hp → VK → Prop := fun xs H Q => ∃ (d : Option Addr) (a : Addr) (c : V) (cv : Value) (b : Bool), xs = [.ref a, c] ∧ H a = some (ExK (.ref D) d a) ∧ (∀ dd, d = some dd → ∃ fs, H dd = some (.xd fs)) ∧ (∀ u, RelV c u → u = cv) ∧ PySem.W.kitOne K (.ref D) cv = some b ∧ Q (.bl b) H
theorem call_isK {D : Addr} (C : ExcC X.K D) : CallR X (.builtin "isinstance") (rIsK X.K D) := by
  intro pins s σ H xs us Q I r h
  obtain ⟨d, a, c, cv, b, rfl, ha, hx, hcv, e, q⟩ := h
  cases r with
  | cons rx rr =>
    cases rr with
    | cons rt rr =>
      cases rr
      cases rx
      have ec := hcv _ rt
      subst ec
      obtain ⟨⟨oe, vs, hget, hz, hv⟩, _, _⟩ := (show ObjOk X.prog X.w H s.heap a (ExK (.ref D) d a) from I.hok a _ ha)
      cases d with
      | none =>
        have J : PySem.W.InstAt s.heap a oe D none := by
          obtain ⟨oc, od, oda, osl⟩ := oe
          obtain ⟨h1, h2⟩ := hz
          dsimp only at h1 h2 hv
          subst h1 h2 hv
          exact ⟨hget, rfl, rfl, trivial⟩
        exact PySem.W.kia_one (PySem.W.handS_kitx_exc C.hg C.hk C.hs C.hd C.ha C.hn C.ht C.hm) I.kIn J e (fun z => nomatch z) fun tk => ⟨.bl b, H, I.kept (t' := tk) fun _ _ z => z, rfl, q⟩
      | some dd =>
        obtain ⟨fs, hd⟩ := hx dd rfl
        obtain ⟨mA, hns, _⟩ := (show ObjOk X.prog X.w H s.heap dd (.xd fs) from I.hok dd _ hd)
        obtain ⟨od, ho, _⟩ := lookIn_ns hns
        have J : PySem.W.InstAt s.heap a oe D (some od) := ⟨hget, hz.1, by unfold PySem.W.notCls; rw [hv] <;> rfl, by rw [hz.2]; exact ho⟩
        exact PySem.W.kia_one (kitx_excD C) I.kIn J e (fun z => nomatch z) fun tk => ⟨.bl b, H, I.kept (t' := tk) fun _ _ z => z, rfl, q⟩
def oIsx (names : List Str) (t : Str) : R → M R := fun r => match r with
  | .e z _ => if z ∈ names ∧ t ∈ names then .ok (.d (.bool (exSub z t))) else .error .stuck
  | _ => .error .stuck
def oIsv (names : List Str) : R → M R := fun r => match r with
  | .e z _ => if z ∈ names then .ok (.d (.bool true)) else .error .stuck
  | _ => .error .stuck
theorem exo_at {H G : Hp} {v : V} {z : Str} {i : Option Int} (S : Xs w names) (hz : z ∈ names) (s : Same G H) (rr : Rr w H G v (.e z i)) : ∃ p d, v = .ref p ∧ H p = some (ExK (.ref (He.ga w.K z)) d p) ∧ (∀ dd, d = some dd → ∃ fs, H dd = some (.xd fs)) ∧
    (∀ j, i = some j → ∃ dd, d = some dd ∧ H dd = some (.xd [(("at" : Str), V.int j)])) := by
  obtain ⟨p, rfl, q⟩ := rr
  rw [S.exo] at q
  obtain ⟨C, d, h1, h2, h3⟩ := q
  rw [S.at_ z hz] at h1
  cases h1
  refine ⟨p, d, rfl, s _ _ h2, ?_, ?_⟩
  · rintro dd rfl
    cases i with
    | none => cases h3
    | some j =>
      obtain ⟨D, e, h4⟩ := h3
      cases e
      exact ⟨_, s _ _ h4⟩
  · rintro j rfl
    obtain ⟨D, e, h4⟩ := h3
    exact ⟨D, e, s _ _ h4⟩
theorem xe_isx {t : Str} {pT : Pos} (ok : w.Ok) (hK : X.K = w.K) (hM : X.mg = w.mg) (S : Xs w names) (hg : Gl X "isinstance") (hm : X.mg "isinstance" = none) (hgT : Gl X t) (ht : t ∈ names) (he : PE X e (rdE w W fa)) (hd : (t == ("__debug__" : Str)) = false := by decide)
    (hvi : bootBuiltins "isinstance" = some (.builtin "isinstance") := by rfl)
    (hs1 : starEach [e, .Name t pT] X.env = (false, eval e X.env) :: starEach [.Name t pT] X.env := by rfl) (hs2 : starEach [.Name t pT] X.env = (false, eval (.Name t pT) X.env) :: starEach [] X.env := by rfl)
    (hpl : (backTo pos (starEach [.Name t pT] X.env)).any (·.1) = false := by rfl) : PE X (.Call (.Name "isinstance" p) [e, .Name t pT] [] pos) (rdE w W (eUn (oIsx names t) fa)) := by
  have hmT : X.mg t = some (.ref (He.ga w.K t)) := by rw [hM]; exact S.at_ t ht
  refine ⟨fun pins s σ H Q I h => ?_⟩
  obtain ⟨H0, B, env, G, g, x, h⟩ := h
  -- which class the exception is of, if any
  cases q : fa env with
  | error er =>
    have h' : PostE w W σ H G (fa env) Q := by
      have : eUn (oIsx names t) fa env = .error er := by unfold eUn; rw [q]; rfl
      rw [this] at h; rw [q]; exact PostE.err.mpr (PostE.err.mp h)
    refine (pe_callB (r := fun _ _ _ => False) (fun _ _ _ _ _ _ _ _ _ h => h.elim) hg hm hvi (pa_cons he (pa_cons (pe_glob (v := .ref (He.ga w.K t)) hgT hmT rfl hd) pa_nil hs2) hs1) (he := hs1) (hpl := hpl)).run pins s σ H Q I ?_
    refine ⟨H0, B, env, G, g, x, ?_⟩
    rw [q] at h' ⊢
    exact PostE.err.mpr (PostE.err.mp h')
  | ok r =>
    have h1 : PostE w W σ H G (oIsx names t r) Q := by
      have : eUn (oIsx names t) fa env = oIsx names t r := by unfold eUn; rw [q]; rfl
      rw [this] at h; exact h
    unfold oIsx at h1
    split at h1
    · rename_i z l
      split at h1
      · rename_i hz
        obtain ⟨c1, c2, c3, c4⟩ := S.all hz.1
        have c1' : ExcC X.K (He.ga w.K z) := by rw [hK]; exact c1
        refine (pe_callB (call_isK c1') hg hm hvi (pa_cons he (pa_cons (pe_glob (v := .ref (He.ga w.K t)) hgT hmT rfl hd) pa_nil hs2) hs1) (he := hs1) (hpl := hpl)).run pins s σ H Q I ?_
        refine ⟨H0, B, env, G, g, x, ?_⟩
        rw [q]
        intro v H1 G1 g1 rr _
        obtain ⟨p, d, rfl, hp, hx, _⟩ := exo_at S hz.1 g1.s rr
        exact ⟨d, p, .ref (He.ga w.K t), .ref (He.ga w.K t), exSub z t, rfl, hp, hx, fun u r => r, by rw [hK]; exact c4 t hz.2, h1 (.bl _) H1 G1 g1 (.bl _) (Fr.no rfl)⟩
      · exact h1.elim
    · exact h1.elim
theorem xe_isv {x : Str} {pT : Pos} (ok : w.Ok) (hK : X.K = w.K) (hM : X.mg = w.mg) (S : Xs w names) (hg : Gl X "isinstance") (hm : X.mg "isinstance" = none) (hgT : Gl X x) (hmT : X.mg x = none) (hv : bootBuiltins x = some (.type "ValueError")) (he : PE X e (rdE w W fa))
    (hvi : bootBuiltins "isinstance" = some (.builtin "isinstance") := by rfl) (hn : x ≠ "__name__" := by decide) (hd : (x == ("__debug__" : Str)) = false := by decide)
    (hs1 : starEach [e, .Name x pT] X.env = (false, eval e X.env) :: starEach [.Name x pT] X.env := by rfl) (hs2 : starEach [.Name x pT] X.env = (false, eval (.Name x pT) X.env) :: starEach [] X.env := by rfl)
    (hpl : (backTo pos (starEach [.Name x pT] X.env)).any (·.1) = false := by rfl) : PE X (.Call (.Name "isinstance" p) [e, .Name x pT] [] pos) (rdE w W (eUn (oIsv names) fa)) := by
  refine ⟨fun pins s σ H Q I h => ?_⟩
  obtain ⟨H0, B, env, G, g, x, h⟩ := h
  cases q : fa env with
  | error er =>
    have h' : PostE w W σ H G (fa env) Q := by
      have : eUn (oIsv names) fa env = .error er := by unfold eUn; rw [q]; rfl
      rw [this] at h; rw [q]; exact PostE.err.mpr (PostE.err.mp h)
    refine (pe_callB (r := fun _ _ _ => False) (fun _ _ _ _ _ _ _ _ _ h => h.elim) hg hm hvi (pa_cons he (pa_cons (pe_bltn (v := .ty "ValueError") hgT hmT hv rfl hn hd) pa_nil hs2) hs1) (he := hs1) (hpl := hpl)).run pins s σ H Q I ?_
    refine ⟨H0, B, env, G, g, x, ?_⟩
    rw [q] at h' ⊢
    exact PostE.err.mpr (PostE.err.mp h')
  | ok r =>
    have h1 : PostE w W σ H G (oIsv names r) Q := by
      have : eUn (oIsv names) fa env = oIsv names r := by unfold eUn; rw [q]; rfl
      rw [this] at h; exact h
    unfold oIsv at h1
    split at h1
    · rename_i z l
      split at h1
      · rename_i hz
        obtain ⟨c1, c2, c3, c4⟩ := S.all hz
        have c1' : ExcC X.K (He.ga w.K z) := by rw [hK]; exact c1
        refine (pe_callB (call_isK c1') hg hm hvi (pa_cons he (pa_cons (pe_bltn (v := .ty "ValueError") hgT hmT hv rfl hn hd) pa_nil hs2) hs1) (he := hs1) (hpl := hpl)).run pins s σ H Q I ?_
        refine ⟨H0, B, env, G, g, x, ?_⟩
        rw [q]
        intro v H1 G1 g1 rr _
        obtain ⟨p, d, rfl, hp, hx, _⟩ := exo_at S hz g1.s rr
        exact ⟨d, p, .ty "ValueError", .type "ValueError", true, rfl, hp, hx, fun u r => r, by rw [hK]; exact c2, h1 (.bl _) H1 G1 g1 (.bl _) (Fr.no rfl)⟩
      · exact h1.elim
    · exact h1.elim
/-! ### try: x = e except SwapError as n: y = n -/
def sTry (names : List Str) (j i k : Nat) (f : Sl → M R) : Sl → M Oc := fun env => match f env with
  | .ok r => nxS (setS j r env)
  | .error (.exc z l) => if z ∈ names ∧ i < env.length ∧ k < env.length ∧ i ≠ k then .ok (.nx (((env.set i none).set k (some (.e z l))).set i none)) else .error .stuck
  | .error _ => .error .stuck
theorem xs_try {j i k : Nat} {x n y : Str} {px py pn2 ps1 ps2 np pos' : Pos} (ok : w.Ok) (hK : X.K = w.K) (hM : X.mg = w.mg) (S : Xs w names) (hs : X.stack = X.env :: X.outer) (hf : X.env.frame = some X.env.locals) (hex : X.ex = []) (hN : X.N.Nodup)
    (hj : X.N[j]? = some x) (hjl : Loc X.env.scope x) (hjf : X.fn x = true ∨ X.env.scope.names.lookup x = some .local)
    (hi : X.N[i]? = some n) (hln : X.env.kindOf n = some .local) (hk : X.N[k]? = some y) (hkl : Loc X.env.scope y) (hkf : X.fn y = true ∨ X.env.scope.names.lookup y = some .local) (hgS : Gl X "SwapError")
    (hb : ∀ (W : WX) (pn : List (Addr × Obj)) (xe : Value → Shared → Prop), Takes (X.tr pn xe) W → PE (X.tr pn xe) e (rdE w W fe))
    (hsw : swapsWith e (some (.Name x px)) ps1.line X.env = pure false := by rfl) (hsw2 : swapsWith (.Name n pn2) (some (.Name y py)) ps2.line X.env = pure false := by rfl) (hdn : (n == ("__debug__" : Str)) = false := by decide) (hcd : (n == ("__classdict__" : Str)) = false := by decide) :
    PS X (.Try [.Assign [.Name x px] e ps1] [.ExceptHandler (some (.Name "SwapError" np)) (some n) [.Assign [.Name y py] (.Name n pn2) ps2] pos'] [] [] pos) (rdS w W (sTry names j i k fe)) := by
  have hlocN : X.env.scope.names.lookup n = some .local := hln
  refine PSi (ps_try_keep (c := .ref (He.ga w.K "SwapError")) (tb := fun W D σ H => rdE w W fe σ H fun v H1 => D.nx (σ.set j (some v)) H1) (ts := fun D σ H => tVar i σ H fun v H1 => D.nx (σ.set k (some v)) H1) hs hf hN hi hln ⟨hgS, by decide, .inl (by rw [hM]; exact S.top)⟩ hex
    (fun W pn xe tk po => pss_one (ps_set (X := X.tr pn xe) hN hj hjl (hb W pn xe tk) hsw hjf)) (fun a pn => pss_one (ps_set (X := X.suite a pn) hN hk hkl (pv i hi (.inl hlocN) hdn hcd) hsw2 hkf))) fun D σ H h => ?_
  obtain ⟨H0, B, env, G, g, x0, h⟩ := h
  refine ⟨H0, B, env, G, g, x0, ?_⟩
  unfold sTry at h
  cases q : fe env with
  | ok r =>
    rw [q] at h
    intro v H1 G1 g1 rr fr
    have h : PostS w W H0 B G (nxS (setS j r env)) D := h
    cases e : setS j r env with
    | error er =>
      rw [e, setS_tame er e] at h
      exact (h []).elim
    | ok env' =>
      rw [e] at h
      exact h _ H1 G1 (g.trans g1) g1.g (Sim.store ok g x0 g1 rr fr e)
  | error er =>
    rw [q] at h
    cases er with
    | stuck => exact (h []).elim
    | exc z l =>
      dsimp only at h
      split at h
      · rename_i hz
        obtain ⟨hz1, hz2, hz3, hz4⟩ := hz
        obtain ⟨c1, c2, c3, c4⟩ := S.all hz1
        have key : ∀ (d : Option Addr) (H1 G1 : Hp), Grow H G H1 G1 → (match l with | none => d = none | some j => ∃ D, d = some D ∧ G1 D = some (.xd [(("at" : Str), V.int j)])) →
            wKp X.K (.ref (He.ga w.K "SwapError")) X.N.length i (fun D σ H => tVar i σ H fun v H1 => D.nx (σ.set k (some v)) H1) D (.ref (He.ga w.K z)) d σ H1 := by
          intro d H1 G1 g1 hd
          refine ⟨by rw [hK]; exact c3, fun a ha _ => ?_⟩
          have hiσ : i < σ.length := by rw [← x0.len]; exact hz2
          refine ⟨.ref a, by simp [hiσ], ?_⟩
          have gl : Grow H1 G1 (upd H1 a (ExK (.ref (He.ga w.K z)) d a)) (upd G1 a (ExK (.ref (He.ga w.K z)) d a)) := Grow.lay g1.s ha
          have x1 := (x0.grow ok g1).grow ok gl
          have x2 := x1.forget (i := i) (o := some (.ref a))
          have hex : exoK w.mg z l a (upd G1 a (ExK (.ref (He.ga w.K z)) d a)) := by
            refine ⟨_, d, S.at_ z hz1, upd_same, ?_⟩
            cases l with
            | none => exact hd
            | some j =>
              obtain ⟨D, e, h4⟩ := hd
              exact ⟨D, e, gl.g _ _ h4⟩
          have x3 := Sim.set (i := k) (r := .e z l) (v := .ref a) x2 (by simpa using hz3) rfl ⟨a, rfl, by rw [S.exo]; exact hex⟩ (fun _ f => f.elim) (fun _ _ _ _ _ _ _ f => f.elim)
          have x4 := x3.forget (i := i) (o := none)
          exact h _ _ _ ((g.trans g1).trans gl) (g1.g.trans gl.g) x4
        cases l with
        | none =>
          intro C H1 G1 hC g1
          rw [S.at_ z hz1] at hC
          cases hC
          exact key none H1 G1 g1 rfl
        | some j =>
          intro C d H1 G1 hC g1 hd
          rw [S.at_ z hz1] at hC
          cases hC
          obtain ⟨G2, g2, _, e2⟩ := g1.xdK hd
          exact key (some d) H1 G2 g2 ⟨d, rfl, e2⟩
      · exact (h []).elim
end
end Vs
end
section
namespace Vs
open PySem PySem.Spec PyProof.Rows L2
/-! ## the top's facts, and one Bool more -/
def obsV (n : Nat) (fa : List He.Fa) (fn : List He.DefD) (ex : PySem.W.Frag → Bool) (g : Addr → Option Obj) : He.AlD × Bool := (He.obsDG n fa fn g, ex (He.frG g (He.asD g n)))
def hookV (n : Nat) (fa : List He.Fa) (fn : List He.DefD) (ex : PySem.W.Frag → Bool) : PySem.W.Hook where
  α := He.AlD × Bool
  obs := fun s => obsV n fa fn ex s.heap.get?
  val := fun _ => (He.valD fn, true)
  says := fun _ h => ∃ K : PySem.W.Frag, K.In h ∧ He.SaysD fa fn K ∧ ex K = true
  of := fun _ _ e => ⟨_, He.frG_in, congrArg Prod.fst e, congrArg Prod.snd e⟩
  keeps := fun _ _ _ ⟨K, hK, c⟩ k => ⟨K, PySem.W.Frag.In.keeps hK k, c⟩
theorem obsV_eq {n : Nat} {fa : List He.Fa} {fn : List He.DefD} {ex : PySem.W.Frag → Bool} {g : Addr → Option Obj} {s : Shared} (h : ∀ a, g a = s.heap.get? a) : obsV n fa fn ex g = (hookV n fa fn ex).obs s := by
  have e : g = s.heap.get? := funext h
  rw [e]; rfl
def exB2 (names : List Str) (K : PySem.W.Frag) : Bool := exB names K && ((("SwapError" : Str) :: names).all fun z => (He.Fa.glo z).ok K)
abbrev wX (K : PySem.W.Frag) (mg : Str → Option Value) : Wd := { K := K, mg := mg, exo := exoK mg }
theorem wX_ok {K : PySem.W.Frag} {mg : Str → Option Value} : (wX K mg).Ok := ⟨exoK_up, fun _ _ _ _ _ h => h⟩
theorem Xs.of {K : PySem.W.Frag} {h : Heap} {mg : Str → Option Value} {names : List Str} (X : K.In h) (G : h.Ns mainGlobals mg) (e : exB2 names K = true) : Xs (wX K mg) names := by
  obtain ⟨e1, e2⟩ := Bool.and_eq_true_iff.mp e
  have e2 := List.all_eq_true.mp e2
  exact ⟨fun z hz => He.glo_ok X G (e2 z (List.mem_cons_of_mem _ hz)), He.glo_ok X G (e2 _ List.mem_cons_self), e1, rfl⟩
end Vs
end
section
namespace Vs
open PySem PySem.Spec PyProof.Rows L2

variable {w : Wd} {W : WX}
/-! ### max, min, abs, int; is True, is False -/
def two2 (f : Int → Int → Int) : List R → M R
  | [.d (.int i), .d (.int j)] => .ok (.d (.int (f i j)))
  | _ => .error .stuck
def oMax2 : List R → M R := two2 fun i j => if j > i then j else i
def oMin2 : List R → M R := two2 fun i j => if j < i then j else i
theorem two2_tame {f : Int → Int → Int} : TameL (two2 f) := fun a x i e => by
  unfold two2 at e; split at e <;> cases e
theorem max2_tame : TameL oMax2 := two2_tame
theorem min2_tame : TameL oMin2 := two2_tame
theorem two2S {f : Int → Int → Int} : CallS w (fun xs H Q => ∃ i j, xs = [V.int i, V.int j] ∧ Q (.int (f i j)) H) (two2 f) := by
  intro H G vs rs Q s rr h
  unfold two2 at h
  split at h
  · rename_i i j
    cases rr with
    | cons r1 r2 =>
      cases r2 with
      | cons r3 r4 =>
        cases r4
        cases r1
        cases r3
        exact ⟨i, j, rfl, h.done s (.int _) (Fr.no rfl)⟩
  · exact h.elim
theorem max2S : CallS w (fun xs H Q => ∃ i j, xs = [V.int i, V.int j] ∧ Q (.int (if j > i then j else i)) H) oMax2 := two2S
theorem min2S : CallS w (fun xs H Q => ∃ i j, xs = [V.int i, V.int j] ∧ Q (.int (if j < i then j else i)) H) oMin2 := two2S
def oAbs : R → M R := fun r => match r with
  | .d (.int i) => .ok (.d (.int (if i < 0 then -i else i)))
  | _ => .error .stuck
theorem oAbs_tame (r : R) (x : Str) (i : Option Int) : oAbs r ≠ .error (.exc x i) := fun e => by
  unfold oAbs at e; split at e <;> cases e
theorem absS : CallS w (fun xs H Q => ∃ i, xs = [V.int i] ∧ Q (.int (if i < 0 then -i else i)) H) (one1 oAbs) := by
  refine oneS fun H G v y Q s rr h => ?_
  unfold oAbs at h
  split at h
  · cases rr
    exact ⟨_, rfl, h.done s (.int _) (Fr.no rfl)⟩
  · exact h.elim
def oInt : R → M R := fun r => match r with
  | .d (.int i) => .ok (.d (.int i))
  | .d (.bool b) => .ok (.d (.int (if b then 1 else 0)))
  | _ => .error .stuck
theorem oInt_tame (r : R) (x : Str) (i : Option Int) : oInt r ≠ .error (.exc x i) := fun e => by
  unfold oInt at e; split at e <;> cases e
theorem intS : CallS w (fun xs H Q => (∃ i, xs = [V.int i] ∧ Q (.int i) H) ∨ ∃ k, xs = [V.bl k] ∧ Q (.int (if k then 1 else 0)) H) (one1 oInt) := by
  refine oneS fun H G v y Q s rr h => ?_
  unfold oInt at h
  split at h
  · cases rr
    exact .inl ⟨_, rfl, h.done s (.int _) (Fr.no rfl)⟩
  · cases rr
    exact .inr ⟨_, rfl, h.done s (.int _) (Fr.no rfl)⟩
  · exact h.elim
def oIsB (neg : Bool) : Op := fun a b => match a, b with
  | .d (.bool x), .d (.bool y) => .ok (.d (.bool (xor neg (decide (x = y)))))
  | _, _ => .error .stuck
theorem oIsB_tame {neg : Bool} : Tame (oIsB neg) := fun a b x i h => by
  unfold oIsB at h
  split at h <;> cases h
theorem isBS : OpS w rIsB (oIsB false) := fun H G v1 v2 r1 r2 Q s rr1 rr2 h => by
  unfold oIsB at h
  split at h
  · rename_i x y
    cases rr1
    cases rr2
    exact ⟨x, y, rfl, rfl, h.done s (by rw [Bool.false_xor]; exact .bl _) (Fr.no rfl)⟩
  · exact h.elim
theorem notBS : OpS w rNotB (oIsB true) := fun H G v1 v2 r1 r2 Q s rr1 rr2 h => by
  unfold oIsB at h
  split at h
  · rename_i x y
    cases rr1
    cases rr2
    exact ⟨x, y, rfl, rfl, h.done s (by rw [Bool.true_xor]; exact .bl _) (Fr.no rfl)⟩
  · exact h.elim
end Vs
end
section
namespace Vs
open PySem PySem.Spec PyProof.Rows L2

variable {w : Wd} {W : WX}
/-! ### defs as values -/
section
variable {X : Cx} {a b c e : Expr} {es : List Expr} {pos p : Pos} {fa fb : Sl → M R} {fs : Sl → M (List R)}
def eFn (x : Str) : Sl → M R := fun _ => .ok (.f x)
theorem xe_fn {x : Str} {k n : Nat} {m : List R → M R} (hM : X.mg = w.mg) (D : Dfn X.prog X.w w X.base x k n m) (hg : Gl X x) (hd : (x == ("__debug__" : Str)) = false := by decide) : PE X (.Name x pos) (rdE w W (eFn x)) := by
  obtain ⟨f, fd, ps, F, hm, hk, hb⟩ := D.ex
  refine PEi (pe_glob (v := .ref f) hg (by rw [hM]; exact hm) rfl hd) fun σ H Q h => ?_
  obtain ⟨H0, B, env, G, g, x0, h⟩ := h
  exact h.done g.s ⟨f, rfl, hm⟩ (Fr.no rfl)
theorem rdA_quiet {σ : L2.St} {H : Hp} {Q : List V → Hp → Prop} (h : rdA w W0 fs σ H Q) : rdA w W fs σ H Q := by
  obtain ⟨H0, B, env, G, g, x, h⟩ := h
  refine ⟨H0, B, env, G, g, x, ?_⟩
  cases q : fs env with
  | ok rs => rw [q] at h; exact h
  | error er =>
    rw [q] at h
    cases er with
    | stuck => exact h
    | exc z i =>
      cases i with
      | none => exact fun C H' G' m gg => (h C H' G' m gg).elim
      | some j => exact fun C d H' G' m gg q => (h C d H' G' m gg q).elim
/-- the call of a slot that holds one of some defs; none of them raises -/
def eDL (i n : Nat) (ds : List (Str × (List R → M R))) (fs : Sl → M (List R)) : Sl → M R := fun env => match env[i]? with
  | some (some (.f x)) => (match ds.lookup x with
    | some m => quiet (eD n m fs env)
    | none => .error .stuck)
  | _ => .error .stuck
theorem xe_callV {k n : Nat} (i : Nat) {y : Str} {ds : List (Str × (List R → M R))} (ok : w.Ok) (hK : X.K = w.K) (hM : X.mg = w.mg) (D : ∀ x m, ds.lookup x = some m → Dfn X.prog X.w w X.base x k n m) (hr : Room k X.A) (ha : PA X (e :: es) (rdA w W fs))
    (hN : X.N[i]? = some y := by rfl) (hv : Vis X.env.scope y := by first | exact Or.inl rfl | exact Or.inr (Or.inl rfl) | exact Or.inr (Or.inr rfl)) (hdb : (y == ("__debug__" : Str)) = false := by decide) (hcd : (y == ("__classdict__" : Str)) = false := by decide)
    (he : starEach (e :: es) X.env = (false, eval e X.env) :: starEach es X.env := by rfl) (hpl : (backTo pos (starEach es X.env)).any (·.1) = false := by rfl) (hcx : ∀ CX', CX' = L2.CX X.prog X.w → Passes CX' X E0 := by rintro _ rfl; exact passL) : PE X (.Call (.Name y p) (e :: es) [] pos) (rdE w W (eDL i n ds fs)) := by
  refine ⟨fun pins s σ H Q I h => ?_⟩
  obtain ⟨H0, B, env, G, g, x0, h⟩ := h
  unfold eDL at h
  split at h
  · rename_i z hz
    split at h
    · rename_i m hm
      obtain ⟨f, fd, ps, F, hf, hk, hb⟩ := (D z m hm).ex
      rw [← hK, ← hM] at F
      rw [← hK] at hk hb
      obtain ⟨_, v, hv2, ⟨q, rfl, hq⟩, _⟩ := x0.at_ i (.f z) hz
      rw [hf] at hq
      cases hq
      refine (pe_callL (i := i) (f := f) (E := E0) F hr hN hv hk hb .nil (hcx _ rfl) ha hdb hcd he hpl).run pins s σ H Q I ⟨hv2, ?_⟩
      have h2 : rdE w W0 (fun env => quiet (eD n m fs env)) σ H Q := by
        refine ⟨H0, B, env, G, g, x0, ?_⟩
        show PostE w W0 σ H G (quiet (eD n m fs env)) Q
        cases e1 : eD n m fs env with
        | ok r => rw [e1] at h; exact h
        | error er => rw [e1] at h; exact h.elim
      have h3 : rdE w W0 (eD n m fs) σ H Q := by
        obtain ⟨H0, B, env, G, g, x0, h2⟩ := h2
        refine ⟨H0, B, env, G, g, x0, ?_⟩
        have h2 : PostE w W0 σ H G (quiet (eD n m fs env)) Q := h2
        cases e1 : eD n m fs env with
        | ok r => rw [e1] at h2; exact h2
        | error er => rw [e1] at h2; exact h2.elim
      have h4 := rd_D ok σ H Q h3
      refine rdA_quiet ?_
      obtain ⟨H0, B, env, G, g, x0, h4⟩ := h4
      refine ⟨H0, B, env, G, g, x0, ?_⟩
      cases e1 : fs env with
      | error er => rw [e1] at h4; exact h4
      | ok rs =>
        rw [e1] at h4
        intro vs H1 G1 g1 rr fr
        have := h4 vs H1 G1 g1 rr fr
        rw [List.append_nil]
        have e0 : WE W0 σ = E0 := by
          funext c d H'
          rfl
        rw [e0] at this
        exact this
    · exact h.elim
  · exact h.elim
/-- two defs -/
theorem look2 {P : Program} {wd : World} {base : Heap} {x y : Str} {j k n : Nat} {m m' : List R → M R} (D : Dfn P wd w base x j n m) (D' : Dfn P wd w base y k n m') : ∀ z q, ([(x, m), (y, m')] : List (Str × (List R → M R))).lookup z = some q → Dfn P wd w base z (max j k) n q := by
  intro z q h
  simp only [List.lookup] at h
  split at h
  · rename_i e
    have e : z = x := by simpa using e
    cases h
    rw [e]
    exact D.mono (Nat.le_max_left _ _)
  · split at h
    · rename_i e
      have e : z = y := by simpa using e
      cases h
      rw [e]
      exact D'.mono (Nat.le_max_right _ _)
    · cases h
end
end Vs
end
section
namespace Vs
open PySem PySem.Spec PyProof.Rows L2

variable {w : Wd} {W : WX}
/-! ## instances: fields read, stored, their lists changed -/
structure Kc (w : Wd) (x : Str) (fl : List Str) : Prop where
  ex : ∃ C, w.mg x = some (.ref C) ∧ Cls w.K C ∧ ∀ f ∈ fl, NoAttr w.K C f
def putL (f : Str) (xs : List PD) : List (Str × List PD) → List (Str × List PD)
  | [] => [(f, xs)]
  | (g, y) :: r => if g = f then (g, xs) :: r else (g, y) :: putL f xs r
theorem FlR.look {H G : Hp} {f : Str} {xs : List PD} {vf : List (Str × V)} {fs : List (Str × List PD)} (h : FlR H G vf fs) : fs.lookup f = some xs → ∃ q vs, vf.lookup f = some (.ref q) ∧ (f, V.ref q) ∈ vf ∧ G q = none ∧ H q = some (.lst vs) ∧ RpL G vs xs := by
  induction h with
  | nil => intro e; cases e
  | @cons g q vs ys r s a b c d _ ih =>
    intro e
    by_cases hg : f = g
    · subst hg
      simp [List.lookup] at e
      subst e
      exact ⟨q, vs, by simp [List.lookup], List.mem_cons_self, a, b, c⟩
    · have hb : (f == g) = false := beq_eq_false_iff_ne.mpr hg
      simp only [List.lookup, hb] at e
      obtain ⟨q', vs', e1, e2, e3, e4, e5⟩ := ih e
      exact ⟨q', vs', by simp only [List.lookup, hb]; exact e1, List.mem_cons_of_mem _ e2, e3, e4, e5⟩
theorem FlG.look {G : Hp} {f : Str} {xs : List PD} {vf : List (Str × V)} {fs : List (Str × List PD)} (h : FlG G vf fs) : fs.lookup f = some xs → ∃ q vs, vf.lookup f = some (.ref q) ∧ G q = some (.lst vs) ∧ RpL G vs xs := by
  induction h with
  | nil => intro e; cases e
  | @cons g q vs ys r s b c _ ih =>
    intro e
    by_cases hg : f = g
    · subst hg
      simp [List.lookup] at e
      subst e
      exact ⟨q, vs, by simp [List.lookup], b, c⟩
    · have hb : (f == g) = false := beq_eq_false_iff_ne.mpr hg
      simp only [List.lookup, hb] at e
      obtain ⟨q', vs', e1, e4, e5⟩ := ih e
      exact ⟨q', vs', by simp only [List.lookup, hb]; exact e1, e4, e5⟩
theorem mem_putF {f g : Str} {v u : V} : ∀ {vf : List (Str × V)}, (g, u) ∈ putF f v vf → (g, u) ∈ vf ∨ u = v
  | [], h => by
    simp [putF] at h
    exact .inr h.2
  | (k, x) :: r, h => by
    unfold putF at h
    split at h
    · rcases List.mem_cons.mp h with e | h
      · cases e; exact .inr rfl
      · exact .inl (List.mem_cons_of_mem _ h)
    · rcases List.mem_cons.mp h with e | h
      · cases e; exact .inl List.mem_cons_self
      · exact (mem_putF h).imp (List.mem_cons_of_mem _) id
theorem FlR.put {H G : Hp} {f : Str} {q : Addr} {vs : List V} {xs : List PD} (nq : G q = none) (hq : H q = some (.lst vs)) (hr : RpL G vs xs) {vf : List (Str × V)} {fs : List (Str × List PD)} (h : FlR H G vf fs) :
    (∀ g, (g, V.ref q) ∉ vf) → FlR H G (putF f (.ref q) vf) (putL f xs fs) := by
  induction h with
  | nil => intro _; exact .cons nq hq hr (fun g m => by cases m) .nil
  | @cons k p us ys r s a b c d t ih =>
    intro hn
    have hn' : ∀ g, (g, V.ref q) ∉ r := fun g m => hn g (List.mem_cons_of_mem _ m)
    have hne : p ≠ q := fun e => hn k (by rw [e]; exact List.mem_cons_self)
    unfold putF putL
    by_cases e : k = f
    · rw [if_pos e, if_pos e]
      exact .cons nq hq hr hn' t
    · rw [if_neg e, if_neg e]
      refine .cons a b c (fun g m => ?_) (ih hn')
      rcases mem_putF m with m | m
      · exact d g m
      · exact hne (by cases m; rfl)
theorem FlR.mut {H G : Hp} {f : Str} {q : Addr} {us : List V} {ys xs : List PD} (hr : RpL G us ys) {vf : List (Str × V)} {fs : List (Str × List PD)} (h : FlR H G vf fs) : fs.lookup f = some xs → vf.lookup f = some (.ref q) →
    FlR (upd H q (.lst us)) G vf (putL f ys fs) := by
  induction h with
  | nil => intro e; cases e
  | @cons k p vs zs r s a b c d t ih =>
    intro e1 e2
    unfold putL
    by_cases e : k = f
    · subst e
      rw [if_pos rfl]
      simp [List.lookup] at e2
      subst e2
      exact .cons a upd_same hr d (t.other d)
    · have hb : (f == k) = false := beq_eq_false_iff_ne.mpr (Ne.symm e)
      simp only [List.lookup, hb] at e1 e2
      rw [if_neg e]
      obtain ⟨q', vs', f1, f2, _⟩ := t.look e1
      rw [e2] at f1
      cases f1
      have hne : p ≠ q := fun z => d f (by rw [z]; exact f2)
      exact .cons a (by rw [upd_ne hne]; exact b) c d (ih e1 e2)
/-- a slot's own thing is changed somewhere -/
theorem Sim.put {H0 : Hp} {env : Sl} {σ : L2.St} {H G : Hp} {i : Nat} {r r' : R} {v : V} {q : Addr} {o : HO} (x : Sim w H0 env σ H G) (e : env[i]? = some (some r)) (hv : σ[i]? = some (some v)) (hq : foot H r v q)
    (hh : r'.held = r') (rr : Rr w (upd H q o) G v r') (hf : ∀ a, foot (upd H q o) r' v a → foot H r v a ∨ (H0 a = none ∧ ∀ (j : Nat) (r1 : R) (u : V), env[j]? = some (some r1) → σ[j]? = some (some u) → ¬ foot H r1 u a)) :
    Sim w H0 (env.set i (some r')) σ (upd H q o) G ∧ ∀ B, Grow H0 B H G → Grow H0 B (upd H q o) G := by
  obtain ⟨hh0, v', hv', rr0, h0⟩ := x.at_ i r e
  rw [hv] at hv'
  cases hv'
  obtain ⟨nG, _⟩ := foot_has rr0 hq
  have n0 := h0 q hq
  have hi : i < env.length := (List.getElem?_eq_some_iff.mp e).1
  have off : ∀ {j : Nat} {r1 : R} {u : V}, j ≠ i → env[j]? = some (some r1) → σ[j]? = some (some u) → ∀ a, foot H r1 u a → a ≠ q := fun {j r1 u} hj e1 s1 a f z => hj (by
    subst z
    exact x.inj j i r1 r u _ a e1 e s1 hv f hq)
  refine ⟨⟨by simp [x.len], fun j r1 e1 => ?_, fun j k r1 r2 u1 u2 a e1 e2 s1 s2 f1 f2 => ?_⟩, fun B g => ⟨fun a u z => ?_, g.g, fun a u z => ?_, g.a⟩⟩
  · by_cases hj : j = i
    · subst hj
      rw [List.getElem?_set_self hi] at e1
      cases e1
      refine ⟨hh, v, hv, rr, fun a f => ?_⟩
      rcases hf a f with f | f
      · exact h0 a f
      · exact f.1
    · rw [List.getElem?_set_ne (Ne.symm hj)] at e1
      obtain ⟨a, u, b, c, d⟩ := x.at_ j r1 e1
      exact ⟨a, u, b, c.other nG (off hj e1 b), fun y f => d y (foot_upd (off hj e1 b) c f)⟩
  · have oth : ∀ {l : Nat} {r3 : R} {u : V} {a : Addr}, l ≠ i → (env.set i (some r'))[l]? = some (some r3) → σ[l]? = some (some u) → foot (upd H q o) r3 u a → env[l]? = some (some r3) ∧ foot H r3 u a := fun {l r3 u a} hl q1 q2 f => by
      rw [List.getElem?_set_ne (Ne.symm hl)] at q1
      obtain ⟨_, u', b, c, _⟩ := x.at_ l r3 q1
      rw [q2] at b
      cases b
      exact ⟨q1, foot_upd (off hl q1 q2) c f⟩
    have self : ∀ {r3 : R} {u : V}, (env.set i (some r'))[i]? = some (some r3) → σ[i]? = some (some u) → r3 = r' ∧ u = v := fun {r3 u} q1 q2 => by
      rw [List.getElem?_set_self hi] at q1
      rw [hv] at q2
      cases q1; cases q2
      exact ⟨rfl, rfl⟩
    by_cases hj : j = i
    · by_cases hk : k = i
      · rw [hj, hk]
      · exfalso
        subst hj
        obtain ⟨rfl, rfl⟩ := self e1 s1
        obtain ⟨e3, f3⟩ := oth hk e2 s2 f2
        rcases hf a f1 with f | f
        · exact hk (x.inj k j r2 r u2 _ a e3 e s2 hv f3 f)
        · exact f.2 k r2 u2 e3 s2 f3
    · by_cases hk : k = i
      · exfalso
        subst hk
        obtain ⟨rfl, rfl⟩ := self e2 s2
        obtain ⟨e3, f3⟩ := oth hj e1 s1 f1
        rcases hf a f2 with f | f
        · exact hj (x.inj j k r1 r u1 _ a e3 e s1 hv f3 f)
        · exact f.2 j r1 u1 e3 s1 f3
      · obtain ⟨e3, f3⟩ := oth hj e1 s1 f1
        obtain ⟨e4, f4⟩ := oth hk e2 s2 f2
        exact x.inj j k r1 r2 u1 u2 a e3 e4 s1 s2 f3 f4
  · rw [upd_ne (ne_of_none z n0)]; exact g.h a u z
  · rw [upd_ne (ne_of_none z nG)]; exact g.s a u z
def fldS (x : Str) (i : Nat) (f : Str) (env : Sl) : Option (List PD) := match env[i]? with
  | some (some (.o _ y fs)) => if y = x then fs.lookup f else none
  | _ => none
def putS (i : Nat) (f : Str) (xs : List PD) (env : Sl) : Sl := match env[i]? with
  | some (some (.o op y fs)) => env.set i (some (.o op y (putL f xs fs)))
  | _ => env
/-- a field's list is changed in place, maybe later -/
theorem Sim.fmut {H0 : Hp} {env : Sl} {σ : L2.St} {H G : Hp} {x f : Str} {i : Nat} {xs : List PD} {fl : List Str} (s : Sim w H0 env σ H G) (c : Kc w x fl) (hf : f ∈ fl) (e : fldS x i f env = some xs) :
    ∃ p C dx vf q, σ[i]? = some (some (.ref p)) ∧ H p = some (.ins C dx vf) ∧ Cls w.K C ∧ NoAttr w.K C f ∧ vf.lookup f = some (.ref q) ∧ ∀ H2 G2, Same H H2 → Sim w H0 env σ H2 G2 → ∃ vs, H2 q = some (.lst vs) ∧ RpL G2 vs xs ∧
      ∀ us ys, RpL G2 us ys → Sim w H0 (putS i f ys env) σ (upd H2 q (.lst us)) G2 ∧ ∀ B, Grow H0 B H2 G2 → Grow H0 B (upd H2 q (.lst us)) G2 := by
  unfold fldS at e
  split at e
  · rename_i op y fs e1
    split at e
    · rename_i hy
      subst hy
      obtain ⟨hh, v, hv, ⟨p, C, dx, vf, rfl, oq, m, n, hp, fl'⟩, h0⟩ := s.at_ i _ e1
      obtain ⟨q, vs, l1, l2, l3, l4, l5⟩ := fl'.look e
      obtain ⟨C', m', cc, na⟩ := c.ex
      rw [m] at m'
      cases m'
      have hne : p ≠ q := fun z => by rw [z, l4] at hp; cases hp
      refine ⟨p, C, dx, vf, q, hv, hp, cc, na f hf, l1, fun H2 G2 s2 x2 => ?_⟩
      obtain ⟨_, v2, hv2, ⟨p2, C2, dx2, vf2, rfl, _, m2, n2, hp2, fl2⟩, _⟩ := x2.at_ i _ e1
      rw [hv] at hv2
      cases hv2
      rw [s2 _ _ hp] at hp2
      cases hp2
      obtain ⟨q2, vs2, k1, k2, k3, k4, k5⟩ := fl2.look e
      rw [l1] at k1
      cases k1
      refine ⟨vs2, k4, k5, fun us ys hr => ?_⟩
      have hp' : upd H2 q (.lst us) p = some (.ins C dx vf) := by rw [upd_ne hne]; exact s2 _ _ hp
      have := x2.put (r' := .o op y (putL f ys fs)) (o := .lst us) e1 hv (.inr ⟨p, C, dx, vf, f, rfl, s2 _ _ hp, l2⟩) rfl ⟨p, C, dx, vf, rfl, oq, m, n2, hp', fl2.mut hr e l1⟩ fun a fa => .inl (by
        rcases fa with fa | ⟨p', C', dx', vf', g, e', h', m'⟩
        · exact .inl fa
        · cases e'
          rw [hp'] at h'
          cases h'
          exact .inr ⟨p, C, dx, vf, g, rfl, s2 _ _ hp, m'⟩)
      unfold putS
      rw [e1]
      exact this
    · cases e
  · cases e
section
variable {X : Cx} {a b c e : Expr} {es : List Expr} {pos p : Pos} {fa fe fk : Sl → M R} {fm : Sl → M (PD × Sl)} {g : Sl → M Oc}
def eFld (x : Str) (i : Nat) (f : Str) : Sl → M R := fun env => match env[i]? with
  | some (some (.o _ y fs)) => if y = x then (match fs.lookup f with
    | some xs => .ok (.l false xs)
    | none => .error .stuck) else .error .stuck
  | some (some (.io y fs)) => if y = x then (match fs.lookup f with
    | some xs => .ok (.d (.list xs))
    | none => .error .stuck) else .error .stuck
  | _ => .error .stuck
/-- the place of a field's list -/
def tFd (K : PySem.W.Frag) (i : Nat) (f : Str) : TE := tFld K (tVar i) f
theorem xe_fld (i : Nat) {x f nm : Str} {p1 : Pos} {fl : List Str} (hK : X.K = w.K) (c : Kc w x fl) (hf : f ∈ fl) (hx : PE X (.Name nm p1) (tVar i)) (hb : attributeBase (.Name nm p1) f X.env (eval (.Name nm p1) X.env) = eval (.Name nm p1) X.env := by rfl) :
    PE X (.Attribute (.Name nm p1) f pos) (rdE w W (eFld x i f)) := by
  refine PEi (pe_fld hx hb) fun σ H Q h => ?_
  obtain ⟨H0, B, env, G, g, s, h⟩ := h
  obtain ⟨C', m', cc, na⟩ := c.ex
  unfold eFld at h
  split at h
  · rename_i op y fs e1
    split at h
    · rename_i hy
      subst hy
      split at h
      · rename_i xs e2
        obtain ⟨hh, v, hv, ⟨p, C, dx, vf, rfl, oq, m, n, hp, fl'⟩, h0⟩ := s.at_ i _ e1
        obtain ⟨q, vs, l1, l2, l3, l4, l5⟩ := fl'.look e2
        rw [m] at m'
        cases m'
        exact ⟨.ref p, hv, p, _, dx, vf, .ref q, rfl, hp, by rw [hK]; exact cc, by rw [hK]; exact na f hf, l1, h.done g.s ⟨q, vs, rfl, l3, l4, l5⟩ (Fr.no rfl)⟩
      · exact h.elim
    · exact h.elim
  · rename_i y fs e1
    split at h
    · rename_i hy
      subst hy
      split at h
      · rename_i xs e2
        obtain ⟨hh, v, hv, ⟨p, C, dx, vf, rfl, m, hp, fl'⟩, h0⟩ := s.at_ i _ e1
        obtain ⟨q, vs, l1, l4, l5⟩ := fl'.look e2
        rw [m] at m'
        cases m'
        exact ⟨.ref p, hv, p, _, dx, vf, .ref q, rfl, g.s _ _ hp, by rw [hK]; exact cc, by rw [hK]; exact na f hf, l1, h.done g.s (Rp.lst l4 l5) (Fr.no rfl)⟩
      · exact h.elim
    · exact h.elim
  · exact h.elim
/-! ### self.f = e -/
def fstS (x : Str) (i : Nat) (f : Str) (xs : List PD) (env : Sl) : M Sl := match env[i]? with
  | some (some (.o op y fs)) => if y = x ∧ fs.length < 900 then .ok (env.set i (some (.o op y (putL f xs fs)))) else .error .stuck
  | _ => .error .stuck
def sFst (x : Str) (i : Nat) (f : Str) (fe : Sl → M R) : Sl → M Oc := fun env => (fe env).bind fun r => match r with
  | .l true xs => nxS (fstS x i f xs env)
  | _ => .error .stuck
theorem FlR.len {H G : Hp} {vf : List (Str × V)} {fs : List (Str × List PD)} (h : FlR H G vf fs) : vf.length = fs.length := by
  induction h with
  | nil => rfl
  | cons _ _ _ _ _ ih => simp [ih]
theorem xs_fst (i : Nat) {x f nm : Str} {p1 p2 : Pos} {fl : List Str} (ok : w.Ok) (hK : X.K = w.K) (c : Kc w x fl) (hf : f ∈ fl) (hx : PE X (.Name nm p1) (tVar i)) (he : PE X e (rdE w W fe))
    (hs : swapsWith e (some (.Attribute (.Name nm p1) f p2)) pos.line X.env = pure false := by rfl) : PS X (.Assign [.Attribute (.Name nm p1) f p2] e pos) (rdS w W (sFst x i f fe)) := by
  refine PSi (ps_fld hx he hs) fun D σ H h => ?_
  refine rdS_E (k := fun r env => match r with
    | .l true xs => nxS (fstS x i f xs env)
    | _ => .error .stuck) ok h fun H0 B env G r v H1 G1 g x0 g1 s rr fr h9 => ?_
  split at h9
  · rename_i xs
    unfold fstS at h9
    split at h9
    · rename_i op y fs e1
      split at h9
      · rename_i hy
        obtain ⟨rfl, hlen⟩ := hy
        obtain ⟨q, vs, rfl, n1, h1, h2⟩ := rr
        have hq := fr rfl q rfl
        obtain ⟨hh, v, hv, ⟨p, C, dx, vf, rfl, oq, m, n, hp, fl'⟩, h0⟩ := s.at_ i _ e1
        obtain ⟨C', m', cc, na⟩ := c.ex
        rw [m] at m'
        cases m'
        have off : ∀ j r1 u, env[j]? = some (some r1) → σ[j]? = some (some u) → ¬ foot H1 r1 u q := fun j r1 u e2 s2 f2 => by
          obtain ⟨_, u', b, c', _⟩ := x0.at_ j r1 e2
          rw [s2] at b
          cases b
          obtain ⟨_, o', ho, _⟩ := foot_has c' (foot_same (fun p o _ z => g1.h p o z) c' f2)
          rw [hq] at ho
          cases ho
        have nv : ∀ k, (k, V.ref q) ∉ vf := fun k mm => off i _ _ e1 hv (.inr ⟨p, C, dx, vf, k, rfl, hp, mm⟩)
        have hne : q ≠ p := fun z => by rw [← z, h1] at hp; cases hp
        have npv : ∀ k, (k, V.ref p) ∉ putF f (.ref q) vf := fun k mm => by
          rcases mem_putF mm with mm | mm
          · obtain ⟨q', vs', e9, _, h9⟩ := fl'.has mm
            cases e9
            rw [hp] at h9
            cases h9
          · cases mm; exact hne rfl
        refine ⟨.ref p, hv, p, C, dx, vf, rfl, hp, by rw [hK]; exact cc, by rw [hK]; exact na f hf, by rw [fl'.len]; omega, ?_⟩
        have fl2 := (fl'.put (f := f) n1 h1 h2 nv).other (o := .ins C dx (putF f (.ref q) vf)) npv
        obtain ⟨sx, gx⟩ := s.put (r' := .o op y (putL f xs fs)) (o := .ins C dx (putF f (.ref q) vf)) e1 hv (.inl rfl) rfl ⟨p, C, dx, putF f (.ref q) vf, rfl, oq, m, n, upd_same, fl2⟩ fun a fa => by
          rcases fa with fa | ⟨p', C', dx', vf', k, e', h', m'⟩
          · exact .inl (.inl fa)
          · cases e'
            rw [upd_same] at h'
            cases h'
            rcases mem_putF m' with mm | mm
            · exact .inl (.inr ⟨p, C, dx, vf, k, rfl, hp, mm⟩)
            · cases mm
              exact .inr ⟨g.h.free hq, off⟩
        exact h9 σ _ G1 (gx B (g.trans g1)) (Same.refl G1) sx
      · exact (h9 []).elim
    · exact (h9 []).elim
  · exact (h9 []).elim
/-! ### a field's list changed by a method -/
def sFm (x : Str) (i : Nat) (f : Str) (fds : Sl → M (List PD)) (op : List PD → List PD → Option (List PD)) : Sl → M Oc := fun env => match fldS x i f env with
  | some xs => (fds env).bind fun ds => (match op xs ds with
    | some ys => .ok (.nx (putS i f ys env))
    | none => .error .stuck)
  | none => .error .stuck
/-- the kit's rule of the method does op -/
def Fm (r : V → List V → Hp → VK → Prop) (op : List PD → List PD → Option (List PD)) : Prop := ∀ (H G : Hp) (q : Addr) (vs as : List V) (xs ds ys : List PD), H q = some (.lst vs) → RpL G vs xs → RpL G as ds → op xs ds = some ys →
  ∃ us, RpL G us ys ∧ ∀ Q : VK, Q .non (upd H q (.lst us)) → r (.ref q) as H Q
theorem rd_fm {x f : Str} {i : Nat} {fl : List Str} {fds : Sl → M (List PD)} {op : List PD → List PD → Option (List PD)} {r : V → List V → Hp → VK → Prop} (ok : w.Ok) (hr : Fm r op) (c : Kc w x fl) (hf : f ∈ fl) {D : Ends} {σ : L2.St} {H : Hp} (h : rdS w W (sFm x i f fds op) D σ H) :
    tBM w.K "list" r (tFld w.K (tVar i) f) (rdD w W fds) σ H fun _ H1 => D.nx σ H1 := by
  obtain ⟨H0, B, env, G, g, s, h⟩ := h
  unfold sFm at h
  split at h
  · rename_i xs e1
    obtain ⟨p, C, dx, vf, q, hv, hp, cc, na, l1, k⟩ := s.fmut c hf e1
    obtain ⟨vs0, hq0, _, _⟩ := k H G (Same.refl H) s
    refine ⟨.ref p, hv, p, C, dx, vf, .ref q, rfl, hp, cc, na, l1, .inl ⟨rfl, vs0, SqL.of hq0⟩, H0, B, env, G, g, s, ?_⟩
    cases e3 : fds env with
    | error er => rw [e3] at h; exact PostX.up g h
    | ok ds =>
      rw [e3] at h
      intro as H1 G1 g1 ra
      have h : PostS w W H0 B G (match op xs ds with
        | some ys => .ok (.nx (putS i f ys env))
        | none => .error .stuck) D := h
      split at h
      · rename_i ys e4
        obtain ⟨vs, hq, hrv, k2⟩ := k H1 G1 g1.h (s.grow ok g1)
        obtain ⟨us, ru, kr⟩ := hr H1 G1 q vs as xs ds ys hq hrv ra e4
        obtain ⟨sx, gx⟩ := k2 us ys ru
        exact kr _ (h σ _ G1 (gx B (g.trans g1)) g1.g sx)
      · exact (h []).elim
  · exact (h []).elim
theorem xs_fm {x f : Str} {i : Nat} {fl : List Str} {fds : Sl → M (List PD)} {op : List PD → List PD → Option (List PD)} {r : V → List V → Hp → VK → Prop} (ok : w.Ok) (hK : X.K = w.K) (hr : Fm r op) (c : Kc w x fl) (hf : f ∈ fl)
    (he : PE X e (tBM X.K "list" r (tFld X.K (tVar i) f) (rdD w W fds))) (hsw : swapsWith e none pos.line X.env = pure false := by rfl) : PS X (.Expr e pos) (rdS w W (sFm x i f fds op)) :=
  PSi (ps_expr he hsw) fun D σ H h => by rw [hK]; exact rd_fm ok hr c hf h
def opApp (xs ds : List PD) : Option (List PD) := match ds with
  | [d] => if xs.length < big then some (xs ++ [d]) else none
  | _ => none
def opIns (xs ds : List PD) : Option (List PD) := match ds with
  | [.int k, d] => if xs.length < big ∧ 0 ≤ k ∧ k ≤ xs.length then some (xs.take k.toNat ++ [d] ++ xs.drop k.toNat) else none
  | _ => none
theorem fm_app : Fm rAppend opApp := by
  intro H G q vs as xs ds ys hq hv ha h
  unfold opApp at h
  split at h
  · rename_i d
    split at h
    · rename_i hz
      cases h
      cases ha with
      | cons r1 r2 =>
        cases r2
        rename_i v
        exact ⟨vs ++ [v], hv.append (RpL.one r1), fun Q k => ⟨q, vs, v, rfl, rfl, hq, by rw [hv.length]; exact Nat.lt_of_lt_of_le hz (by decide), k⟩⟩
    · cases h
  · cases h
def rInsert : V → List V → Hp → VK → Prop := fun x vs H Q => ∃ (l : Addr) (xs : List V) (i : Int) (y : V), x = .ref l ∧ vs = [.int i, y] ∧ H l = some (.lst xs) ∧ xs.length < sizeLine ∧ 0 ≤ i ∧ i < 2 ^ 63 ∧ Q .non (upd H l (.lst (xs.take i.toNat ++ [y] ++ xs.drop i.toNat)))
theorem fm_ins : Fm rInsert opIns := by
  intro H G q vs as xs ds ys hq hv ha h
  unfold opIns at h
  split at h
  · rename_i k d
    split at h
    · rename_i hz
      cases h
      cases ha with
      | cons r1 r2 =>
        cases r2 with
        | cons r2 r3 =>
        cases r3
        cases r1
        rename_i v
        have hb : xs.length < 100000 := hz.1
        exact ⟨vs.take k.toNat ++ [v] ++ vs.drop k.toNat, ((hv.take _).append (RpL.one r2)).append (hv.drop _), fun Q kk => ⟨q, vs, k, v, rfl, rfl, hq, by rw [hv.length]; exact Nat.lt_of_lt_of_le hz.1 (by decide), hz.2.1, by omega, kk⟩⟩
    · cases h
  · cases h
/-! ### self.f[k] = e -/
def sFitm (x : Str) (i : Nat) (f : Str) (fk fv : Sl → M R) : Sl → M Oc := fun env => match fldS x i f env with
  | some xs => (fv env).bind fun r => (dat r).bind fun d => (fk env).bind fun k => (ti k).bind fun k => (match ixN xs.length k with
    | some j => .ok (.nx (putS i f (xs.set j d) env))
    | none => .error .stuck)
  | none => .error .stuck
theorem xs_fitm {x f nm : Str} {i : Nat} {fl : List Str} {ek : Expr} {p1 p2 ps : Pos} {fv : Sl → M R} (ok : w.Ok) (hK : X.K = w.K) (c : Kc w x fl) (hf : f ∈ fl) (hx : PE X (.Name nm p1) (tVar i)) (hk : PE X ek (rdE w W fk)) (he : PE X e (rdE w W fv))
    (hb : attributeBase (.Name nm p1) f X.env (eval (.Name nm p1) X.env) = eval (.Name nm p1) X.env := by rfl)
    (ha : ∀ v, assign (.Subscript (.Attribute (.Name nm p1) f p2) ek ps) X.env v = (do
      let ov ← holding [v] (eval (.Attribute (.Name nm p1) f p2) X.env)
      let iv ← holding [v, ov] (eval ek X.env)
      standAt ps
      holding [v, ov, iv] (setItem ov iv v)
      release [v, ov, iv] []) := by intro _; rfl)
    (hs : swapsWithSole [.Subscript (.Attribute (.Name nm p1) f p2) ek ps] e pos.line X.env = pure false := by rfl) (hw : swappedStores [.Subscript (.Attribute (.Name nm p1) f p2) ek ps] e X.env = pure none := by rfl)
    (h1 : (assignEach [.Subscript (.Attribute (.Name nm p1) f p2) ek ps] X.env).map (·.2) = [assign (.Subscript (.Attribute (.Name nm p1) f p2) ek ps) X.env] := by rfl) : PS X (.Assign [.Subscript (.Attribute (.Name nm p1) f p2) ek ps] e pos) (rdS w W (sFitm x i f fk fv)) := by
  refine PSi (ps_asg he (pg_sub (pe_fld hx hb) hk set_list ha) hs hw h1) fun D σ H h => ?_
  obtain ⟨H0, B, env, G, g, s, h⟩ := h
  unfold sFitm at h
  split at h
  · rename_i xs e1
    refine ⟨H0, B, env, G, g, s, ?_⟩
    cases e3 : fv env with
    | error er => rw [e3] at h; exact PostE.err.mpr (PostX.up g h)
    | ok r =>
      rw [e3] at h
      intro v H1 G1 g1 rr fr
      have h : PostS w W H0 B G ((dat r).bind fun d => (fk env).bind fun k => (ti k).bind fun k => (match ixN xs.length k with
        | some j => .ok (.nx (putS i f (xs.set j d) env))
        | none => .error .stuck)) D := h
      unfold dat at h
      cases e2 : r.dat with
      | none => rw [e2] at h; exact (h []).elim
      | some d =>
        rw [e2] at h
        obtain ⟨G2, g2, s12, rp, _⟩ := rr.lay g1 e2 fr
        have s2 := s.grow ok g2
        obtain ⟨p, C, dx, vf, q, hv, hp, cc, na, l1, k⟩ := s2.fmut c hf e1
        rw [← hK] at cc na
        refine ⟨.ref p, hv, p, C, dx, vf, .ref q, rfl, hp, cc, na, l1, H0, B, env, G2, g.trans g2, s2, ?_⟩
        have h : PostS w W H0 B G ((fk env).bind fun k => (ti k).bind fun k => (match ixN xs.length k with
          | some j => .ok (.nx (putS i f (xs.set j d) env))
          | none => .error .stuck)) D := h
        cases e4 : fk env with
        | error er => rw [e4] at h; exact PostE.err.mpr (PostX.up (g.trans g2) h)
        | ok rk =>
          rw [e4] at h
          intro u H3 G3 g3 ru fu
          have h : PostS w W H0 B G ((ti rk).bind fun k => (match ixN xs.length k with
            | some j => .ok (.nx (putS i f (xs.set j d) env))
            | none => .error .stuck)) D := h
          cases rk with
          | d y =>
            cases y with
            | int n =>
              cases ru
              have h : PostS w W H0 B G (match ixN xs.length n with
                | some j => .ok (.nx (putS i f (xs.set j d) env))
                | none => .error .stuck) D := h
              split at h
              · rename_i j e5
                obtain ⟨vs, hq, hr, k2⟩ := k H3 G3 g3.h (s2.grow ok g3)
                obtain ⟨sx, gx⟩ := k2 (vs.set j v) (xs.set j d) (hr.set (Rp.mono g3.g _ _ rp) j)
                exact ⟨q, vs, n, j, rfl, rfl, hq, by rw [hr.length]; exact e5, h σ _ G3 (gx B ((g.trans g2).trans g3)) (g2.g.trans g3.g) sx⟩
              · exact (h []).elim
            | _ => exact (h []).elim
          | _ => exact (h []).elim
  · exact (h []).elim
end
end Vs
end
section
namespace Vs
open PySem PySem.Spec PyProof.Rows L2

variable {w : Wd} {W : WX}
/-! ## xs[a:c] = ys -/
def SlcO (sl : Addr) (a c : Int) : HO := .ext fun h => ∃ vl vu, h.IsSliceOf sl vl vu .none ∧ RelV (.int a) vl ∧ RelV (.int c) vu
def tSlc (tl th : TO) : TE := fun σ H Q => tl σ H fun l H2 => th σ H2 fun u H3 => ∃ a c, l = some a ∧ u = some c ∧ ∀ sl, H3 sl = none → Q (.ref sl) (upd H3 sl (SlcO sl a c))
section
variable {X : Cx}
theorem pe_slc {lo hi : Option Expr} {tl th : TO} {p2 : Pos} (hl : PO X lo tl) (hu : PO X hi th) : PE X (.Slice lo hi none p2) (tSlc tl th) := by
  refine ⟨fun pins s σ H Q I h => ?_⟩
  refine wpAny_Slice (thn (hl.run pins s σ H _ I h) fun vl s2 ⟨l, H2, I2, pl, q2⟩ => thn (hu.run pins s2 σ H2 _ I2 q2) fun vu s3 ⟨u, H3, I3, pu, a, c, e1, e2, q3⟩ => ?_)
  rw [evalPart_none]
  refine wpAny_pure ?_
  subst e1 e2
  have nf := I3.hok.fresh (Nat.le_refl s3.heap.objs.size)
  refine ⟨.ref s3.heap.objs.size, _, ?_, rfl, q3 _ nf⟩
  refine I3.laid (t' := s3.toks) (o := SlcO s3.heap.objs.size a c) (fun b ob q => Heap.get?_push_of_some _ q) (Nat.le_refl _) ?_
  have is := Heap.IsSliceOf.new s3.heap vl vu .none
  cases pl
  cases pu
  refine ⟨⟨_, _, is, ⟨_, rfl⟩, ⟨_, rfl⟩⟩, ⟨_, Heap.get?_push_size _ rfl⟩, fun h1 h2 z k => ?_⟩
  obtain ⟨vl, vu, ⟨o, y1, y2⟩, y3, y4⟩ := z
  exact ⟨vl, vu, ⟨o, k _ y1, y2⟩, y3, y4⟩
def rSlc : V → V → V → Hp → (Hp → Prop) → Prop := fun o i v H Q => ∃ l sl b xs ys a c, o = .ref l ∧ i = .ref sl ∧ v = .ref b ∧ H l = some (.lst xs) ∧ H b = some (.lst ys) ∧ l ≠ b ∧ H sl = some (SlcO sl a c) ∧ 0 ≤ a ∧ a ≤ c ∧ c ≤ xs.length ∧ xs.length + ys.length ≤ sizeLine ∧
  Q (upd H l (.lst (xs.take a.toNat ++ ys ++ xs.drop c.toNat)))
theorem set_slc : PSet X rSlc := by
  intro pins s σ H o i v ov iv u Q I ro ri rv h
  obtain ⟨l, sl, b, xs, ys, a, c, rfl, rfl, rfl, h1, h2, hne, h3, h4, h5, h6, h7, q⟩ := h
  cases ro; cases ri; cases rv
  have z : ObjOk X.prog X.w H s.heap sl (.ext fun h => ∃ vl vu, h.IsSliceOf sl vl vu .none ∧ RelV (.int a) vl ∧ RelV (.int c) vu) := I.hok sl _ h3
  obtain ⟨⟨vl, vu, is, ra, rc⟩, _, _⟩ := z
  exact L2.set_slice I h1 h2 hne is ra rc h4 h5 h6 h7 fun s' J => ⟨_, J, q⟩
/-- o[lo:hi] = ..: as o[i] = .., but for the order in which things are let go -/
theorem pg_slc {o i : Expr} {to ti : TE} {t : TSet} {q : Pos} (ho : PE X o to) (hi : PE X i ti) (hs : PSet X t)
    (ha : ∀ u, assign (.Subscript o i q) X.env u = (do let x ← holding [u] (eval o X.env); let y ← holding [u, x] (eval i X.env); standAt q; holding [u, x, y] (setItem x y u); release [y, u, x] []) := by intro _; rfl) : PG X (.Subscript o i q) (gSub to ti t) :=
  ⟨fun pins s σ H v u Q I r h => by
    rw [ha]
    have step2 : ∀ {x : V} {xv : Value} {s1 : Shared} {H1 : Hp}, Inv X pins σ H1 s1 → RelV x xv → (ti σ H1 fun i H2 => t x i v H2 fun H3 => Q σ H3) →
        wpAny (model X.prog X.w) X.A (do let y ← holding [u, xv] (eval i X.env); standAt q; holding [u, xv, y] (setItem xv y u); release [y, u, xv] []) (fun _ s' => ∃ σ' H', Inv X pins σ' H' s' ∧ Q σ' H') X.xe s1 := fun {x xv s1 H1} I1 r1 q1 =>
      wpAny_bind (wpAny_holding (thn (hi.run pins s1 σ H1 _ I1 q1) fun yv s2 ⟨y, H2, I2, r2, q2⟩ => wpAny_bind (wpAny_standAt (wpAny_bind (wpAny_holding (thn (hs pins s2 σ H2 x y v xv yv u _ I2 r1 r2 r q2) fun _ s3 ⟨H3, I3, q3⟩ => wpAny_release ⟨σ, H3, I3, q3⟩))))))
    exact wpAny_bind (wpAny_holding (thn (ho.run pins s σ H _ I h) fun xv s1 ⟨x, H1, I1, r1, q1⟩ => step2 I1 r1 q1))⟩
variable {a b c e : Expr} {es : List Expr} {pos p : Pos} {fa fe fk : Sl → M R} {flo fhi : Sl → M (Option Int)} {g : Sl → M Oc}
def cutIn (xs ys : List PD) (lo hi : Option Int) : Option (List PD) := match lo, hi with
  | some a, some c => if 0 ≤ a ∧ a ≤ c ∧ c ≤ xs.length ∧ xs.length + ys.length ≤ big then some (xs.take a.toNat ++ ys ++ xs.drop c.toNat) else none
  | _, _ => none
theorem cutIn_V {G : Hp} {vs us : List V} {xs ys zs : List PD} {lo hi : Option Int} (hv : RpL G vs xs) (hu : RpL G us ys) (h : cutIn xs ys lo hi = some zs) :
    ∃ a c, lo = some a ∧ hi = some c ∧ 0 ≤ a ∧ a ≤ c ∧ c ≤ vs.length ∧ vs.length + us.length ≤ sizeLine ∧ RpL G (vs.take a.toNat ++ us ++ vs.drop c.toNat) zs := by
  unfold cutIn at h
  split at h
  · rename_i a c
    split at h
    · rename_i z
      cases h
      obtain ⟨z1, z2, z3, z4⟩ := z
      exact ⟨a, c, rfl, rfl, z1, z2, by rw [hv.length]; exact z3, by rw [hv.length, hu.length]; exact big_le z4, ((hv.take _).append hu).append (hv.drop _)⟩
    · cases h
  · cases h
def asNew : R → M (List PD) := fun r => match r with
  | .l true ys => .ok ys
  | _ => .error .stuck
theorem asNew_ok {r : R} {ys : List PD} (h : asNew r = .ok ys) : r = .l true ys := by
  unfold asNew at h
  split at h
  · cases h; rfl
  · cases h
theorem asNew_err {r : R} {er : Er} (h : asNew r = .error er) : er = .stuck := by
  unfold asNew at h
  split at h
  · cases h
  · cases h; rfl
@[simp] theorem asNew_l (ys : List PD) : asNew (.l true ys) = .ok ys := rfl
/-- x[lo:hi] = a list just made, x a slot's list -/
def slaS (i : Nat) (ys : List PD) (lo hi : Option Int) (env : Sl) : M Sl := match env[i]? with
  | some (some (.l _ xs)) => (match cutIn xs ys lo hi with
    | some zs => .ok (env.set i (some (.l false zs)))
    | none => .error .stuck)
  | _ => .error .stuck
def sSla (i : Nat) (flo fhi : Sl → M (Option Int)) (fv : Sl → M R) : Sl → M Oc := fun env => if isL i env then (fv env).bind fun r => (asNew r).bind fun ys => (flo env).bind fun lo => (fhi env).bind fun hi => nxS (slaS i ys lo hi env) else .error .stuck
theorem rdO_use {σ : L2.St} {H0 B : Hp} {env : Sl} {H G : Hp} {Q : Option Int → Hp → Prop} {f : Sl → M (Option Int)} (g : Grow H0 B H G) (s : Sim w H0 env σ H G) (h : match f env with
  | .ok o => ∀ H' G', Grow H G H' G' → Q o H'
  | .error e => PostX w W σ H G e) : rdO w W f σ H Q := ⟨H0, B, env, G, g, s, h⟩
theorem xs_sla (i : Nat) {nm : Str} {lo hi : Option Expr} {p1 p2 ps : Pos} (ok : w.Ok) (hx : PE X (.Name nm p1) (tVar i)) (hl : PO X lo (rdO w W flo)) (hu : PO X hi (rdO w W fhi)) (he : PE X e (rdE w W fe))
    (ha : ∀ v, assign (.Subscript (.Name nm p1) (.Slice lo hi none p2) ps) X.env v = (do
      let ov ← holding [v] (eval (.Name nm p1) X.env)
      let iv ← holding [v, ov] (eval (.Slice lo hi none p2) X.env)
      standAt ps
      holding [v, ov, iv] (setItem ov iv v)
      release [iv, v, ov] []) := by intro _; rfl)
    (hs : swapsWithSole [.Subscript (.Name nm p1) (.Slice lo hi none p2) ps] e pos.line X.env = pure false := by rfl) (hw : swappedStores [.Subscript (.Name nm p1) (.Slice lo hi none p2) ps] e X.env = pure none := by rfl)
    (h1 : (assignEach [.Subscript (.Name nm p1) (.Slice lo hi none p2) ps] X.env).map (·.2) = [assign (.Subscript (.Name nm p1) (.Slice lo hi none p2) ps) X.env] := by rfl) : PS X (.Assign [.Subscript (.Name nm p1) (.Slice lo hi none p2) ps] e pos) (rdS w W (sSla i flo fhi fe)) := by
  refine PSi (ps_asg he (pg_slc hx (pe_slc hl hu) set_slc ha) hs hw h1) fun D σ H h => ?_
  obtain ⟨H0, B, env, G, g, s, h⟩ := h
  unfold sSla at h
  split at h
  · rename_i hl
    obtain ⟨bb, xs, e1⟩ := isL_some hl
    refine ⟨H0, B, env, G, g, s, ?_⟩
    cases e3 : fe env with
    | error er => rw [e3] at h; exact PostE.err.mpr (PostX.up g h)
    | ok r =>
      rw [e3] at h
      intro v H1 G1 g1 rr fr
      have h : PostS w W H0 B G ((asNew r).bind fun ys => (flo env).bind fun lo => (fhi env).bind fun hi => nxS (slaS i ys lo hi env)) D := h
      cases en : asNew r with
      | error er => rw [en, asNew_err en] at h; exact (h []).elim
      | ok ys =>
        rw [en] at h
        have h : PostS w W H0 B G ((flo env).bind fun lo => (fhi env).bind fun hi => nxS (slaS i ys lo hi env)) D := h
        rw [asNew_ok en] at rr fr
        obtain ⟨b, us, rfl, nb, hb, rb⟩ := rr
        have fb := fr rfl b rfl
        have s1 := s.grow ok g1
        obtain ⟨p, hv, n0, nG, rr0, gw, wr⟩ := s.write e1 rfl
        obtain ⟨p', vs0, e2, _, hp0, _⟩ := rr0
        cases e2
        have hne : p ≠ b := fun z => by rw [z, fb] at hp0; cases hp0
        refine ⟨.ref p, hv, H0, B, env, G1, g.trans g1, s1, ?_⟩
        cases e5 : flo env with
        | error er => rw [e5] at h; exact PostX.up (g.trans g1) h
        | ok lo =>
          rw [e5] at h
          intro H2 G2 g2
          have s2 := s1.grow ok g2
          refine ⟨H0, B, env, G2, (g.trans g1).trans g2, s2, ?_⟩
          have h : PostS w W H0 B G ((fhi env).bind fun hi => nxS (slaS i ys lo hi env)) D := h
          cases e6 : fhi env with
          | error er => rw [e6] at h; exact PostX.up ((g.trans g1).trans g2) h
          | ok hi =>
            rw [e6] at h
            intro H3 G3 g3
            have s3 := s2.grow ok g3
            have h8 : PostS w W H0 B G (nxS (slaS i ys lo hi env)) D := h
            unfold slaS at h8
            rw [e1] at h8
            dsimp only at h8
            cases e7 : cutIn xs ys lo hi with
            | none => rw [e7] at h8; exact (h8 []).elim
            | some zs =>
              rw [e7] at h8
              have gg := ((g.trans g1).trans g2).trans g3
              obtain ⟨_, v3, hv3, ⟨p3, vs, rfl, n3, hp3, rv⟩, _⟩ := s3.at_ i _ e1
              rw [hv] at hv3
              cases hv3
              have hb3 : H3 b = some (.lst us) := g3.h _ _ (g2.h _ _ hb)
              obtain ⟨a, c, rfl, rfl, c1, c2, c3, c4, rz⟩ := cutIn_V rv (RpL.mono (g2.g.trans g3.g) _ _ rb) e7
              refine ⟨a, c, rfl, rfl, fun sl hsl => ?_⟩
              have g4 : Grow H3 G3 (upd H3 sl (SlcO sl a c)) G3 := Grow.own g3.s hsl
              have s4 := s3.grow ok g4
              obtain ⟨p4, hv4, n4, nG4, _, gw4, wr4⟩ := s4.write e1 rfl
              rw [hv] at hv4
              cases hv4
              refine ⟨p, sl, b, vs, us, a, c, rfl, rfl, rfl, by rw [upd_ne (ne_of_none hp3 hsl)]; exact hp3, by rw [upd_ne (ne_of_none hb3 hsl)]; exact hb3, hne, upd_same, c1, c2, c3, c4, ?_⟩
              exact h8 σ _ G3 (gw4 B (gg.trans g4) _) ((g1.g.trans g2.g).trans g3.g) (wr4 _ (.l false zs) rfl rfl ⟨p, _, rfl, nG4, upd_same, rz⟩)
  · exact (h []).elim
/-- x.f[lo:hi] = a list just made -/
def sFsl (x : Str) (i : Nat) (f : Str) (flo fhi : Sl → M (Option Int)) (fv : Sl → M R) : Sl → M Oc := fun env => match fldS x i f env with
  | some xs => (fv env).bind fun r => (asNew r).bind fun ys => (flo env).bind fun lo => (fhi env).bind fun hi => (match cutIn xs ys lo hi with
      | some zs => .ok (.nx (putS i f zs env))
      | none => .error .stuck)
  | none => .error .stuck
theorem xs_fsl {x f nm : Str} {i : Nat} {fl : List Str} {lo hi : Option Expr} {p1 p2 p3 ps : Pos} (ok : w.Ok) (hK : X.K = w.K) (c : Kc w x fl) (hf : f ∈ fl) (hx : PE X (.Name nm p1) (tVar i)) (hl : PO X lo (rdO w W flo)) (hu : PO X hi (rdO w W fhi)) (he : PE X e (rdE w W fe))
    (hb : attributeBase (.Name nm p1) f X.env (eval (.Name nm p1) X.env) = eval (.Name nm p1) X.env := by rfl)
    (ha : ∀ v, assign (.Subscript (.Attribute (.Name nm p1) f p3) (.Slice lo hi none p2) ps) X.env v = (do
      let ov ← holding [v] (eval (.Attribute (.Name nm p1) f p3) X.env)
      let iv ← holding [v, ov] (eval (.Slice lo hi none p2) X.env)
      standAt ps
      holding [v, ov, iv] (setItem ov iv v)
      release [iv, v, ov] []) := by intro _; rfl)
    (hs : swapsWithSole [.Subscript (.Attribute (.Name nm p1) f p3) (.Slice lo hi none p2) ps] e pos.line X.env = pure false := by rfl) (hw : swappedStores [.Subscript (.Attribute (.Name nm p1) f p3) (.Slice lo hi none p2) ps] e X.env = pure none := by rfl)
    (h1 : (assignEach [.Subscript (.Attribute (.Name nm p1) f p3) (.Slice lo hi none p2) ps] X.env).map (·.2) = [assign (.Subscript (.Attribute (.Name nm p1) f p3) (.Slice lo hi none p2) ps) X.env] := by rfl) :
    PS X (.Assign [.Subscript (.Attribute (.Name nm p1) f p3) (.Slice lo hi none p2) ps] e pos) (rdS w W (sFsl x i f flo fhi fe)) := by
  refine PSi (ps_asg he (pg_slc (pe_fld hx hb) (pe_slc hl hu) set_slc ha) hs hw h1) fun D σ H h => ?_
  obtain ⟨H0, B, env, G, g, s, h⟩ := h
  unfold sFsl at h
  split at h
  · rename_i xs e1
    refine ⟨H0, B, env, G, g, s, ?_⟩
    cases e3 : fe env with
    | error er => rw [e3] at h; exact PostE.err.mpr (PostX.up g h)
    | ok r =>
      rw [e3] at h
      intro v H1 G1 g1 rr fr
      have h : PostS w W H0 B G ((asNew r).bind fun ys => (flo env).bind fun lo => (fhi env).bind fun hi => (match cutIn xs ys lo hi with
        | some zs => .ok (.nx (putS i f zs env))
        | none => .error .stuck)) D := h
      cases en : asNew r with
      | error er => rw [en, asNew_err en] at h; exact (h []).elim
      | ok ys =>
        rw [en] at h
        have h : PostS w W H0 B G ((flo env).bind fun lo => (fhi env).bind fun hi => (match cutIn xs ys lo hi with
          | some zs => .ok (.nx (putS i f zs env))
          | none => .error .stuck)) D := h
        rw [asNew_ok en] at rr fr
        obtain ⟨b, us, rfl, nb, hb1, rb⟩ := rr
        have fb := fr rfl b rfl
        have s1 := s.grow ok g1
        obtain ⟨p0, C0, dx0, vf0, q0, hv0, hp0, _, _, l0, k0⟩ := s.fmut c hf e1
        obtain ⟨vq0, hq0, _, _⟩ := k0 H G (Same.refl H) s
        have hne : q0 ≠ b := fun z => by rw [z, fb] at hq0; cases hq0
        obtain ⟨p, C, dx, vf, q, hv, hp, cc, na, l1, k⟩ := s1.fmut c hf e1
        have : q = q0 := by
          rw [hv] at hv0
          cases hv0
          rw [g1.h _ _ hp0] at hp
          cases hp
          rw [l1] at l0
          cases l0
          rfl
        subst this
        rw [← hK] at cc na
        refine ⟨.ref p, hv, p, C, dx, vf, .ref q, rfl, hp, cc, na, l1, H0, B, env, G1, g.trans g1, s1, ?_⟩
        cases e5 : flo env with
        | error er => rw [e5] at h; exact PostX.up (g.trans g1) h
        | ok lo =>
          rw [e5] at h
          intro H2 G2 g2
          have s2 := s1.grow ok g2
          refine ⟨H0, B, env, G2, (g.trans g1).trans g2, s2, ?_⟩
          have h : PostS w W H0 B G ((fhi env).bind fun hi => (match cutIn xs ys lo hi with
            | some zs => .ok (.nx (putS i f zs env))
            | none => .error .stuck)) D := h
          cases e6 : fhi env with
          | error er => rw [e6] at h; exact PostX.up ((g.trans g1).trans g2) h
          | ok hi =>
            rw [e6] at h
            intro H3 G3 g3
            have s3 := s2.grow ok g3
            have h8 : PostS w W H0 B G (match cutIn xs ys lo hi with
              | some zs => .ok (.nx (putS i f zs env))
              | none => .error .stuck) D := h
            cases e7 : cutIn xs ys lo hi with
            | none => rw [e7] at h8; exact (h8 []).elim
            | some zs =>
              rw [e7] at h8
              have gg := ((g.trans g1).trans g2).trans g3
              obtain ⟨vs3, hq3, rv3, _⟩ := k H3 G3 (g2.h.trans g3.h) s3
              have hb3 : H3 b = some (.lst us) := g3.h _ _ (g2.h _ _ hb1)
              obtain ⟨a, c, rfl, rfl, c1, c2, c3, c4, rz⟩ := cutIn_V rv3 (RpL.mono (g2.g.trans g3.g) _ _ rb) e7
              refine ⟨a, c, rfl, rfl, fun sl hsl => ?_⟩
              have g4 : Grow H3 G3 (upd H3 sl (SlcO sl a c)) G3 := Grow.own g3.s hsl
              have s4 := s3.grow ok g4
              obtain ⟨vs4, hq4, rv4, k4⟩ := k _ G3 ((g2.h.trans g3.h).trans g4.h) s4
              have hq4' : upd H3 sl (SlcO sl a c) q = some (.lst vs3) := by rw [upd_ne (ne_of_none hq3 hsl)]; exact hq3
              obtain ⟨sx, gx⟩ := k4 _ zs rz
              refine ⟨q, sl, b, vs3, us, a, c, rfl, rfl, rfl, hq4', by rw [upd_ne (ne_of_none hb3 hsl)]; exact hb3, hne, upd_same, c1, c2, c3, c4, ?_⟩
              exact h8 σ _ G3 (gx B (gg.trans g4)) ((g1.g.trans g2.g).trans g3.g) sx
  · exact (h []).elim
end
end Vs
end
section
namespace Vs
open PySem PySem.Spec PyProof.Rows L2

variable {w : Wd} {W : WX}
/-! ## methods -/
noncomputable def hid (H : Hp) (F : Addr → Prop) : Hp := fun a => @ite _ (F a) (Classical.propDecidable _) none (H a)
theorem hid_in {H : Hp} {F : Addr → Prop} {a : Addr} (h : F a) : hid H F a = none := @if_pos _ (Classical.propDecidable _) h _ _ _
theorem hid_out {H : Hp} {F : Addr → Prop} {a : Addr} (h : ¬ F a) : hid H F a = H a := @if_neg _ (Classical.propDecidable _) h _ _ _
theorem hid_same {H : Hp} {F : Addr → Prop} : Same (hid H F) H := fun a o e => by
  by_cases h : F a
  · rw [hid_in h] at e; cases e
  · rw [hid_out h] at e; exact e
abbrev Fl := List (Str × List PD)
/-- an instance's state behind a method -/
def obO (p : Addr) (x : Str) (env : Sl) : M Fl := match env[(0 : Nat)]? with
  | some (some (.o (some q) y fs)) => if q = p ∧ y = x then .ok fs else .error .stuck
  | _ => .error .stuck
def outO (p : Addr) (x : Str) : Oc → M (R × Fl)
  | .nx env => (obO p x env).bind fun fs => .ok (.d .none, fs)
  | .rs r env => (obO p x env).bind fun fs => .ok (r, fs)
  | _ => .error .stuck
def runO (n : Nat) (x : Str) (g : Sl → M Oc) (p : Addr) (fs : Fl) (as : List R) : M (R × Fl) := (g (startS n (.o (some p) x fs :: as))).bind (outO p x)
abbrev Mo := Addr → Fl → List R → M (R × Fl)
def spO (w : Wd) (x : Str) (n : Nat) (m : Mo) : Sp := fun vs H Q _ => vs.length = n + 1 ∧ ∃ p us B fs as r fs', vs = .ref p :: us ∧ Same B H ∧ Rr w H B (.ref p) (.o none x fs) ∧ RrL w H B us as ∧ (∀ r ∈ as, r.own = false) ∧ m p fs as = .ok (r, fs') ∧
  ∀ v H' G', Grow (hid H (foot H (.o none x fs) (.ref p))) B H' G' → Rr w H' G' (.ref p) (.o none x fs') → Rr w H' G' v r → Fr (hid H (foot H (.o none x fs) (.ref p))) v r → (∀ a, foot H' (.o none x fs') (.ref p) a → foot H (.o none x fs) (.ref p) a ∨ H a = none) → Q v H'
theorem Rr.noP {H G : Hp} {op : Option Addr} {x : Str} {fs : Fl} {v : V} (h : Rr w H G v (.o op x fs)) : Rr w H G v (.o none x fs) := by
  obtain ⟨p, C, dx, vf, e, _, m, n, hp, q⟩ := h
  exact ⟨p, C, dx, vf, e, (fun _ z => by cases z), m, n, hp, q⟩
theorem Rr.withP {H G : Hp} {p : Addr} {x : Str} {fs : Fl} (h : Rr w H G (.ref p) (.o none x fs)) : Rr w H G (.ref p) (.o (some p) x fs) := by
  obtain ⟨p', C, dx, vf, e, _, m, n, hp, q⟩ := h
  cases e
  exact ⟨p, C, dx, vf, rfl, (fun _ z => by cases z; rfl), m, n, hp, q⟩
theorem Rr.isP {H G : Hp} {p : Addr} {x : Str} {fs : Fl} {v : V} (h : Rr w H G v (.o (some p) x fs)) : v = .ref p := by
  obtain ⟨p', C, dx, vf, e, o, m, n, hp, q⟩ := h
  rw [o p rfl]; exact e
structure Mth (P : Program) (wd : World) (w : Wd) (base : Heap) (x mn : Str) (k n : Nat) (m : Mo) : Prop where
  ex : ∃ C f fd ps, w.mg x = some (.ref C) ∧ Cls w.K C ∧ Meth w.K C mn f ∧ FnOk P wd w.K w.mg base (L2.CX P wd) k f fd ps (spO w x n m) ∧ Binds w.K fd ps []
/-- the same def as one that only reads the instance -/
structure MthR (P : Program) (wd : World) (w : Wd) (base : Heap) (x mn : Str) (k n : Nat) (m : List R → M R) : Prop where
  ex : ∃ C f fd ps, w.mg x = some (.ref C) ∧ Cls w.K C ∧ Meth w.K C mn f ∧ FnOk P wd w.K w.mg base (L2.CX P wd) k f fd ps (spM w (n + 1) m) ∧ Binds w.K fd ps []
/-- the maker -/
structure Mkr (P : Program) (wd : World) (w : Wd) (base : Heap) (x : Str) (k n : Nat) (m : Mo) : Prop where
  ex : ∃ C f fd ps, w.mg x = some (.ref C) ∧ Cls w.K C ∧ Mk w.K C f ∧ FnOk P wd w.K w.mg base (L2.CX P wd) k f fd ps (spO w x n m) ∧ Binds w.K fd ps []
theorem RrL.at_ {H G : Hp} {vs : List V} {rs : List R} (h : RrL w H G vs rs) : ∀ {i : Nat} {r : R}, rs[i]? = some r → ∃ v, vs[i]? = some v ∧ Rr w H G v r := by
  induction h with
  | nil => intro i r e; simp at e
  | cons r1 _ ih =>
    intro i r e
    cases i with
    | zero => simp at e; subst e; exact ⟨_, rfl, r1⟩
    | succ i =>
      obtain ⟨v, a, b⟩ := ih (by simpa using e)
      exact ⟨v, by simpa using a, b⟩
theorem Sim.startO {B H : Hp} {N : List Str} {p : Addr} {x : Str} {fs : Fl} {us : List V} {as : List R} (s : Same B H) (ro : Rr w H B (.ref p) (.o none x fs)) (rr : RrL w H B us as) (ho : ∀ r ∈ as, r.own = false) :
    Sim w (hid H (foot H (.o none x fs) (.ref p))) (startS N.length (.o (some p) x fs :: as)) (L2.start N (.ref p :: us)) H B := by
  have rr2 : RrL w H B (.ref p :: us) (.o (some p) x fs :: as) := .cons ro.withP rr
  have hl := rr2.length
  have get : ∀ {i : Nat} {r : R}, (startS N.length (.o (some p) x fs :: as))[i]? = some (some r) → (.o (some p) x fs :: as : List R)[i]? = some r := fun {i r} e => by
    unfold startS at e
    by_cases hi : i < (.o (some p) x fs :: as : List R).length
    · rw [List.getElem?_append_left (by simpa using hi), List.getElem?_map] at e
      cases q : (.o (some p) x fs :: as : List R)[i]? with
      | none => rw [q] at e; cases e
      | some u => rw [q] at e; simpa using e
    · rw [List.getElem?_append_right (by simpa using hi)] at e
      rw [List.getElem?_replicate] at e
      split at e <;> simp at e
  have one : ∀ {i : Nat} {r : R}, (.o (some p) x fs :: as : List R)[i]? = some r → (i = 0 ∧ r = .o (some p) x fs) ∨ r.own = false := fun {i r} e => by
    cases i with
    | zero => simp at e; exact .inl ⟨rfl, e.symm⟩
    | succ i => exact .inr (ho r (List.mem_of_getElem? (by simpa using e)))
  have val : ∀ {i : Nat} {v : V}, (.ref p :: us : List V)[i]? = some v → (L2.start N (.ref p :: us))[i]? = some (some v) := fun {i v} e => by
    have hi : i < (.ref p :: us : List V).length := (List.getElem?_eq_some_iff.mp e).1
    unfold L2.start
    rw [List.getElem?_append_left (by simpa using hi), List.getElem?_map, e]
    rfl
  have val0 : (L2.start N (.ref p :: us))[0]? = some (some (.ref p)) := val rfl
  refine ⟨by simp only [startS, L2.start, List.length_append, List.length_map, List.length_replicate, hl], fun i r e => ?_, fun i j r r' v v' a e1 e2 s1 s2 f1 f2 => ?_⟩
  · have e1 := get e
    obtain ⟨v, hv, q⟩ := rr2.at_ e1
    rcases one e1 with ⟨rfl, rfl⟩ | hr
    · simp at hv
      subst hv
      exact ⟨rfl, .ref p, val0, q, fun a f => hid_in f⟩
    · exact ⟨own_held hr, v, val hv, q, fun a f => by have z := foot_own f; rw [hr] at z; cases z⟩
  · rcases one (get e1) with ⟨rfl, _⟩ | h1
    · rcases one (get e2) with ⟨rfl, _⟩ | h2
      · rfl
      · have z := foot_own f2; rw [h2] at z; cases z
    · have z := foot_own f1; rw [h1] at z; cases z
/-- a method of the text -/
theorem fn_okO {P : Program} {wd : World} {base : Heap} {x nm qual : Str} {st : Stmt} {f : Addr} {fd : FuncData} {N ps : List Str} {k n : Nat} {g : Sl → M Oc} (F : FunD w.K nm qual (defArgs st) (defBody st) (defScope st) [] [] f fd) (S : FnScope N ps (defScope st)) (hn : ps.length = n + 1)
    (body : ∀ (cdv : Value) (A : Around) (outer : List Env) (s : Shared) (H : Hp) (E : XK), Room k (A.deeper (envOfC qual (defScope st) s.heap.objs.size f cdv)) →
      PSs (cxOf (L2.CX P wd) P wd w.K w.mg base N qual (defScope st) f cdv A outer s H E) (defBody st) (rdS w (WD E) g)) : FnOk P wd w.K w.mg base (L2.CX P wd) (k + 1) f fd ps (spO w x n (runO N.length x g)) := by
  refine F.ok S (fun vs H Q E h => h.1.trans hn.symm) (fun cdv A outer s H vs Q E hr h => ⟨_, body cdv A outer s H E hr, ?_⟩)
  obtain ⟨hl, p, us, B, fs, as, r, fs', rfl, sB, ro, rr, ho, hm, h⟩ := h
  refine ⟨hid H (foot H (.o none x fs) (.ref p)), B, startS N.length (.o (some p) x fs :: as), B, ⟨hid_same, Same.refl B, sB, fun b o _ q _ => q⟩, Sim.startO sB ro rr ho, ?_⟩
  have fin : ∀ {env : Sl} {σ' : L2.St} {H' G' : Hp} {fs2 : Fl}, obO p x env = .ok fs2 → Sim w (hid H (foot H (.o none x fs) (.ref p))) env σ' H' G' →
      Rr w H' G' (.ref p) (.o none x fs2) ∧ ∀ a, foot H' (.o none x fs2) (.ref p) a → foot H (.o none x fs) (.ref p) a ∨ H a = none := fun {env σ' H' G' fs2} e s => by
    unfold obO at e
    split at e
    · rename_i q y f3 e1
      split at e
      · rename_i c
        cases e
        obtain ⟨rfl, rfl⟩ := c
        obtain ⟨_, v, hv, r1, k1⟩ := s.at_ 0 _ e1
        have := r1.isP
        subst this
        refine ⟨r1.noP, fun a fa => ?_⟩
        have := k1 a fa
        by_cases z : foot H (.o none y fs) (.ref q) a
        · exact .inl z
        · rw [hid_out z] at this
          exact .inr this
      · cases e
    · cases e
  unfold runO at hm
  cases e : g (startS N.length (.o (some p) x fs :: as)) with
  | error er => rw [e] at hm; cases hm
  | ok o =>
    rw [e] at hm
    have hm : outO p x o = .ok (r, fs') := hm
    cases o with
    | nx env =>
      have hm : (obO p x env).bind (fun fs => .ok (.d .none, fs)) = .ok (r, fs') := hm
      cases e2 : obO p x env with
      | error er => rw [e2] at hm; cases hm
      | ok f2 =>
        rw [e2] at hm
        cases hm
        exact fun σ' H' G' gg _ s' => h .non H' G' gg (fin e2 s').1 .non (Fr.no rfl) (fin e2 s').2
    | rs r2 env =>
      have hm : (obO p x env).bind (fun fs => .ok (r2, fs)) = .ok (r, fs') := hm
      cases e2 : obO p x env with
      | error er => rw [e2] at hm; cases hm
      | ok f2 =>
        rw [e2] at hm
        cases hm
        exact fun σ' v H' G' gg _ s' rv fv => h v H' G' gg (fin e2 s').1 rv fv (fin e2 s').2
    | ret r2 => cases hm
    | bk env => cases hm
    | ct env => cases hm
/-! ### the caller -/
theorem Rr.keep {H G H' G' : Hp} (ok : w.Ok) (s : Same G G') : ∀ {r : R} {v : V}, (∀ a o, foot H r v a → H a = some o → H' a = some o ∧ G' a = none) → Rr w H G v r → Rr w H' G' v r
  | .d x, v, _, h => Rp.mono s x v h
  | .l _ xs, v, k, ⟨p, vs, e, n, h, q⟩ => ⟨p, vs, e, (k p _ e h).2, (k p _ e h).1, RpL.mono s _ _ q⟩
  | .T _ _, v, k, ⟨p, vs, e, n, h, kk, q⟩ => ⟨p, vs, e, (k p _ e h).2, (k p _ e h).1, kk, RpL.mono s _ _ q⟩
  | .M _ _, v, k, ⟨p, vs, e, n, h, kk, q⟩ => ⟨p, vs, e, (k p _ e h).2, (k p _ e h).1, kk, RpL.mono s _ _ q⟩
  | .s _, v, _, ⟨p, e, h⟩ => ⟨p, e, s.seq h⟩
  | .z _, v, _, ⟨p, e, h⟩ => ⟨p, e, ok.seto _ _ _ _ s h⟩
  | .e _ _, v, _, ⟨p, e, h⟩ => ⟨p, e, ok.exo _ _ _ _ _ s h⟩
  | .f _, v, _, ⟨p, e, h⟩ => ⟨p, e, h⟩
  | .io _ _, v, _, ⟨p, C, dx, vf, e, m, h, q⟩ => ⟨p, C, dx, vf, e, m, s p _ h, q.mono s⟩
  | .q, v, _, ⟨p, e, h⟩ => ⟨p, e, s _ _ h⟩
  | .lk _ _, v, k, ⟨vs, e, n, h, q⟩ => ⟨vs, e, (k _ _ e h).2, (k _ _ e h).1, RpL.mono s _ _ q⟩
  | .D _, v, k, ⟨p, kv, e, n, h, q⟩ => by
    refine ⟨p, kv, e, (k p _ (.inl e) h).2, (k p _ (.inl e) h).1, ?_⟩
    have key : ∀ {l : List (Key × V)} {fs : List (Key × List PD)}, FlR H G l fs → (∀ f u, (f, u) ∈ l → (f, u) ∈ kv) → FlR H' G' l fs := by
      intro l fs hl
      induction hl with
      | nil => intro _; exact .nil
      | @cons f q' vs xs r s' a b c d _ ih =>
        intro hs
        have := k q' _ (.inr ⟨p, kv, f, e, h, hs _ _ List.mem_cons_self⟩) b
        exact .cons this.2 this.1 (RpL.mono s _ _ c) d (ih fun g u m => hs g u (List.mem_cons_of_mem _ m))
    exact key q fun _ _ z => z
  | .o _ _ _, v, k, ⟨p, C, dx, vf, e, op, m, n, h, q⟩ => by
    refine ⟨p, C, dx, vf, e, op, m, (k p _ (.inl e) h).2, (k p _ (.inl e) h).1, ?_⟩
    have key : ∀ {l : List (Str × V)} {fs : List (Str × List PD)}, FlR H G l fs → (∀ f u, (f, u) ∈ l → (f, u) ∈ vf) → FlR H' G' l fs := by
      intro l fs hl
      induction hl with
      | nil => intro _; exact .nil
      | @cons f q' vs xs r s' a b c d _ ih =>
        intro hs
        have := k q' _ (.inr ⟨p, C, dx, vf, f, e, h, hs _ _ List.mem_cons_self⟩) b
        exact .cons this.2 this.1 (RpL.mono s _ _ c) d (ih fun g u m => hs g u (List.mem_cons_of_mem _ m))
    exact key q fun _ _ z => z
theorem Sim.meth {H0 : Hp} {env : Sl} {σ : L2.St} {H G H' G' : Hp} {i : Nat} {r r' : R} {v : V} (ok : w.Ok) (x : Sim w H0 env σ H G) (e : env[i]? = some (some r)) (hv : σ[i]? = some (some v)) (gr : Grow (hid H (foot H r v)) G H' G')
    (hh : r'.held = r') (rr : Rr w H' G' v r') (hf : ∀ a, foot H' r' v a → foot H r v a ∨ H a = none) : (∀ B, Grow H0 B H G → Sim w H0 (env.set i (some r')) σ H' G' ∧ Grow H0 B H' G') := by
  intro B g
  obtain ⟨hh0, v', hv', rr0, h0⟩ := x.at_ i r e
  rw [hv] at hv'
  cases hv'
  have hi : i < env.length := (List.getElem?_eq_some_iff.mp e).1
  have out : ∀ {j : Nat} {r1 : R} {u : V}, j ≠ i → env[j]? = some (some r1) → σ[j]? = some (some u) → ∀ a, foot H r1 u a → ¬ foot H r v a := fun {j r1 u} hj e1 s1 a f z => hj (x.inj j i r1 r u _ a e1 e s1 hv f z)
  have keep : ∀ {j : Nat} {r1 : R} {u : V}, j ≠ i → env[j]? = some (some r1) → σ[j]? = some (some u) → Rr w H G u r1 → ∀ a o, foot H r1 u a → H a = some o → H' a = some o ∧ G' a = none := fun {j r1 u} hj e1 s1 c a o f ha => by
    have hn := out hj e1 s1 a f
    have h1 : hid H (foot H r v) a = some o := by rw [hid_out hn]; exact ha
    obtain ⟨nG, o', ho', fx⟩ := foot_has c f
    rw [ha] at ho'
    cases ho'
    exact ⟨gr.h a o h1, gr.a a o fx nG h1⟩
  have back : ∀ {j : Nat} {r1 : R} {u : V} {a : Addr}, j ≠ i → env[j]? = some (some r1) → σ[j]? = some (some u) → Rr w H G u r1 → foot H' r1 u a → foot H r1 u a := fun {j r1 u a} hj e1 s1 c f =>
    foot_same (fun p o ep hp => (keep hj e1 s1 c p o (by rw [ep]; exact foot_self (foot_own f)) hp).1) c f
  refine ⟨⟨by simp [x.len], fun j r1 e1 => ?_, fun j k r1 r2 u1 u2 a e1 e2 s1 s2 f1 f2 => ?_⟩, ⟨fun a o z => ?_, g.g.trans gr.g, gr.s, fun b o f q z => ?_⟩⟩
  · by_cases hj : j = i
    · subst hj
      rw [List.getElem?_set_self hi] at e1
      cases e1
      refine ⟨hh, v, hv, rr, fun a f => ?_⟩
      rcases hf a f with f | f
      · exact h0 a f
      · exact g.h.free f
    · rw [List.getElem?_set_ne (Ne.symm hj)] at e1
      obtain ⟨a, u, b, c, d⟩ := x.at_ j r1 e1
      exact ⟨a, u, b, c.keep ok gr.g (keep hj e1 b c), fun y f => d y (back hj e1 b c f)⟩
  · have oth : ∀ {l : Nat} {r3 : R} {u : V} {a : Addr}, l ≠ i → (env.set i (some r'))[l]? = some (some r3) → σ[l]? = some (some u) → foot H' r3 u a → env[l]? = some (some r3) ∧ foot H r3 u a ∧ H a ≠ none := fun {l r3 u a} hl q1 q2 f => by
      rw [List.getElem?_set_ne (Ne.symm hl)] at q1
      obtain ⟨_, u', b, c, _⟩ := x.at_ l r3 q1
      rw [q2] at b
      cases b
      have f' := back hl q1 q2 c f
      obtain ⟨_, o, ho, _⟩ := foot_has c f'
      exact ⟨q1, f', by rw [ho]; intro z; cases z⟩
    by_cases hj : j = i
    · by_cases hk : k = i
      · rw [hj, hk]
      · exfalso
        subst hj
        rw [List.getElem?_set_self hi] at e1
        rw [hv] at s1
        cases e1; cases s1
        obtain ⟨e3, f3, n3⟩ := oth hk e2 s2 f2
        rcases hf a f1 with f | f
        · exact hk (x.inj k j r2 r u2 _ a e3 e s2 hv f3 f)
        · exact n3 f
    · by_cases hk : k = i
      · exfalso
        subst hk
        rw [List.getElem?_set_self hi] at e2
        rw [hv] at s2
        cases e2; cases s2
        obtain ⟨e3, f3, n3⟩ := oth hj e1 s1 f1
        rcases hf a f2 with f | f
        · exact hj (x.inj j k r1 r u1 _ a e3 e s1 hv f3 f)
        · exact n3 f
      · obtain ⟨e3, f3, _⟩ := oth hj e1 s1 f1
        obtain ⟨e4, f4, _⟩ := oth hk e2 s2 f2
        exact x.inj j k r1 r2 u1 u2 a e3 e4 s1 s2 f3 f4
  · refine gr.h a o ?_
    rw [hid_out (fun f => by rw [h0 a f] at z; cases z)]
    exact g.h a o z
  · have nf : ¬ foot H r v b := fun f => by rw [h0 b f] at z; cases z
    exact gr.a b o f (g.a b o f q z) (by rw [hid_out nf]; exact g.h b o z)
end Vs
end
section
namespace Vs
open PySem PySem.Spec PyProof.Rows L2

variable {w : Wd} {W : WX}
def nOwn (rs : List R) : Bool := rs.all fun r => !r.own
theorem nOwn_ok {rs : List R} (h : nOwn rs = true) : ∀ r ∈ rs, r.own = false := fun r hr => by
  have := List.all_eq_true.mp h r hr
  simpa using this
def dOf : R → M PD := fun r => match r with
  | .d x => .ok x
  | _ => .error .stuck
theorem dOf_ok {r : R} {d : PD} (h : dOf r = .ok d) : r = .d d := by
  unfold dOf at h; split at h <;> cases h; rfl
theorem quiet_ok2 {α : Type} {m : M α} {a : α} (h : quiet m = .ok a) : m = .ok a := by
  cases m with
  | ok b => cases h; rfl
  | error _ => cases h
theorem quiet_err {α : Type} {m : M α} {er : Er} (h : quiet m = .error er) : er = .stuck := by
  cases m with
  | ok b => cases h
  | error _ => cases h; rfl
section
variable {X : Cx} {a b c e : Expr} {es : List Expr} {pos p : Pos} {fa fe fk : Sl → M R} {fs : Sl → M (List R)} {g : Sl → M Oc} {fm : Sl → M (PD × Sl)} {ft : Sl → M Bool}
/-- the outcome of a method's call -/
def mthO (x : Str) (i n : Nat) (mn : Str) (m : Mo) (env : Sl) (rs : List R) : M (PD × Sl) := match env[i]? with
  | some (some (.o (some p) y fl)) => if y = x ∧ fl.lookup mn = none ∧ rs.length = n ∧ nOwn rs = true then (quiet (m p fl rs)).bind fun q => (dOf q.1).bind fun d => .ok (d, env.set i (some (.o (some p) y q.2))) else .error .stuck
  | _ => .error .stuck
def isO (x : Str) (i : Nat) (mn : Str) (env : Sl) : Bool := match env[i]? with
  | some (some (.o (some _) y fl)) => decide (y = x) && (fl.lookup mn).isNone
  | _ => false
def mMth (x : Str) (i n : Nat) (mn : Str) (m : Mo) (fs : Sl → M (List R)) : Sl → M (PD × Sl) := fun env => if isO x i mn env then (fs env).bind (mthO x i n mn m env) else .error .stuck
theorem FlR.keys {H G : Hp} {vf : List (Str × V)} {fl : Fl} (h : FlR H G vf fl) {k : Str} : fl.lookup k = none → vf.lookup k = none := by
  induction h with
  | nil => intro _; rfl
  | @cons f q vs xs r s _ _ _ _ _ ih =>
    intro e
    by_cases hk : k = f
    · subst hk; simp [List.lookup] at e
    · have hb : (k == f) = false := beq_eq_false_iff_ne.mpr hk
      simp only [List.lookup, hb] at e ⊢
      exact ih e
theorem rd_meth {x mn : Str} {i n : Nat} {m : Mo} {C : Addr} (ok : w.Ok) (hC : w.mg x = some (.ref C)) (σ : L2.St) (H : Hp) (Q : VK) (h : rdM w W (mMth x i n mn m fs) σ H Q) : tMeth C mn (spO w x n m) [] E0 (tVar i) (rdA w W fs) σ H Q := by
  obtain ⟨H0, B, env, G, g, s, h⟩ := h
  unfold mMth at h
  split at h
  · rename_i hi
    unfold isO at hi
    split at hi
    · rename_i p0 y fl e1
      simp only [Bool.and_eq_true, decide_eq_true_eq, Option.isNone_iff_eq_none] at hi
      obtain ⟨rfl, hk⟩ := hi
      obtain ⟨_, v, hv, ro, _⟩ := s.at_ i _ e1
      have := ro.isP
      subst this
      obtain ⟨p1, C1, dx, vf, e9, _, m1, n1, hp, fr1⟩ := ro
      cases e9
      rw [hC] at m1
      cases m1
      refine ⟨.ref p0, hv, p0, dx, vf, rfl, hp, fr1.keys hk, H0, B, env, G, g, s, ?_⟩
      cases e3 : fs env with
      | error er => rw [e3] at h; exact PostX.up g h
      | ok rs =>
        rw [e3] at h
        intro vs H1 G1 g1 rr fr
        have h : PostM' w W σ H0 B G (mthO y i n mn m env rs) Q := h
        have s1 := s.grow ok g1
        unfold mthO at h
        rw [e1] at h
        dsimp only at h
        split at h
        · rename_i hc
          obtain ⟨_, _, hl, ho⟩ := hc
          cases e4 : quiet (m p0 fl rs) with
          | error er => rw [e4, quiet_err e4] at h; exact (h []).elim
          | ok q =>
            rw [e4] at h
            have h : PostM' w W σ H0 B G ((dOf q.1).bind fun d => .ok (d, env.set i (some (.o (some p0) y q.2)))) Q := h
            cases e5 : dOf q.1 with
            | error er =>
              rw [e5] at h
              have : er = .stuck := by unfold dOf at e5; split at e5 <;> cases e5; rfl
              rw [this] at h
              exact (h []).elim
            | ok d =>
              rw [e5] at h
              obtain ⟨_, v1, hv1, ro1, _⟩ := s1.at_ i _ e1
              rw [hv] at hv1
              cases hv1
              rw [List.append_nil]
              refine ⟨by rw [List.length_cons, rr.length, hl], p0, vs, G1, fl, rs, q.1, q.2, rfl, g1.s, ro1.noP, rr, nOwn_ok ho, quiet_ok2 e4, fun v H' G' gr ro' rv fv hf => ?_⟩
              have hd := dOf_ok e5
              rw [hd] at rv
              obtain ⟨sx, gx⟩ := s1.meth (r' := .o (some p0) y q.2) ok e1 hv gr rfl ro'.withP hf B (g.trans g1)
              exact h v H' G' gx (g1.g.trans gr.g) sx rv
        · exact (h []).elim
    · cases hi
  · exact (h []).elim
theorem xm_meth {x mn nm : Str} {p1 apos : Pos} {k n : Nat} {m : Mo} {pl : Sem Bool} (i : Nat) (ok : w.Ok) (hK : X.K = w.K) (hM : X.mg = w.mg) (D : Mth X.prog X.w w X.base x mn k n m) (hr : Room k X.A) (hx : PE X (.Name nm p1) (tVar i)) (ha : PA X (e :: es) (rdA w W fs))
    (hst : starEach (e :: es) X.env = (false, eval e X.env) :: starEach es X.env := by rfl) (hpl : (backTo pos (starEach es X.env)).any (·.1) = false := by rfl)
    (ht : eval (.Call (.Attribute (.Name nm p1) mn apos) (e :: es) [] pos) X.env = (do
      let ov ← eval (.Name nm p1) X.env
      standAt apos.atName
      let (f, first) ← holding [ov] (getMethod ov mn pl)
      callWith pos f first (backTo pos (starEach (e :: es) X.env)) (backToKw pos (keywordEach [] X.env))) := by rfl) (hcx : ∀ CX', CX' = L2.CX X.prog X.w → Passes CX' X E0 := by rintro _ rfl; exact passL) :
    PE X (.Call (.Attribute (.Name nm p1) mn apos) (e :: es) [] pos) (rdM w W (mMth x i n mn m fs)) := by
  obtain ⟨C, f, fd, ps, hC, cc, hm, F, hb⟩ := D.ex
  rw [← hK, ← hM] at F
  rw [← hK] at cc hm hb
  exact PEi (pe_meth (E := E0) (pl := pl) hx cc hm F hr hb .nil (hcx _ rfl) ha hst hpl ht) (rd_meth ok hC)
theorem xm_meth0 {x mn nm : Str} {p1 apos : Pos} {k : Nat} {m : Mo} {pl : Sem Bool} (i : Nat) (ok : w.Ok) (hK : X.K = w.K) (hM : X.mg = w.mg) (D : Mth X.prog X.w w X.base x mn k 0 m) (hr : Room k X.A) (hx : PE X (.Name nm p1) (tVar i))
    (ht : eval (.Call (.Attribute (.Name nm p1) mn apos) [] [] pos) X.env = (do
      let ov ← eval (.Name nm p1) X.env
      standAt apos.atName
      let (f, first) ← holding [ov] (getMethod ov mn pl)
      callWith pos f first (backTo pos (starEach [] X.env)) (backToKw pos (keywordEach [] X.env))) := by rfl) (hcx : ∀ CX', CX' = L2.CX X.prog X.w → Passes CX' X E0 := by rintro _ rfl; exact passL) :
    PE X (.Call (.Attribute (.Name nm p1) mn apos) [] [] pos) (rdM w W (mMth x i 0 mn m aNil)) := by
  obtain ⟨C, f, fd, ps, hC, cc, hm, F, hb⟩ := D.ex
  rw [← hK, ← hM] at F
  rw [← hK] at cc hm hb
  refine PEi (pe_meth0 (E := E0) (pl := pl) hx cc hm F hr hb .nil (hcx _ rfl) ht) fun σ H Q h => ?_
  have h2 : tMeth C mn (spO w x 0 m) [] E0 (tVar i) (rdA w W aNil) σ H Q := rd_meth ok hC σ H Q h
  obtain ⟨v, hv, a, dx, f, e1, e2, e3, h3⟩ := h2
  refine ⟨v, hv, a, dx, f, e1, e2, e3, ?_⟩
  obtain ⟨H0, B, env, G, g, s, h3⟩ := h3
  exact h3 [] H G (Grow.refl g.s) .nil trivial
/-! ### such calls in statements and tests -/
def sDropM (f : Sl → M (PD × Sl)) : Sl → M Oc := fun env => (f env).bind fun q => .ok (.nx q.2)
theorem xs_exprM (he : PE X e (rdM w W fm)) (hs : swapsWith e none pos.line X.env = pure false := by rfl) : PS X (.Expr e pos) (rdS w W (sDropM fm)) := by
  refine PSi (ps_expr he hs) fun D σ H h => ?_
  obtain ⟨H0, B, env, G, g, s, h⟩ := h
  refine ⟨H0, B, env, G, g, s, ?_⟩
  unfold sDropM at h
  cases q : fm env with
  | error er => rw [q] at h; exact h
  | ok r =>
    rw [q] at h
    exact fun v H' G' gg sg s' _ => h σ H' G' gg sg s'
def PostTM (w : Wd) (W : WX) (σ : L2.St) (H0 B G : Hp) : M (Bool × Sl) → (Bool → Hp → Prop) → Prop
  | .ok (b, env), Q => ∀ H' G', Grow H0 B H' G' → Same G G' → Sim w H0 env σ H' G' → Q b H'
  | .error e, _ => ∀ σ', PostX w W σ' H0 B e
def rdTM (w : Wd) (W : WX) (f : Sl → M (Bool × Sl)) : TT := fun σ H Q => ∃ H0 B env G, Grow H0 B H G ∧ Sim w H0 env σ H G ∧ PostTM w W σ H0 B G (f env) Q
def tVM (f : Sl → M (PD × Sl)) : Sl → M (Bool × Sl) := fun env => (f env).bind fun q => (bo (.d q.1)).bind fun b => .ok (b, q.2)
theorem xt_valM (he : PE X e (rdM w W fm)) (hh : ∀ whole, isTrue e X.env whole = (do let v ← whole; standAt e.pos; holding [v] (truthy v)) := by intro _; rfl) : PT X e (rdTM w W (tVM fm)) := by
  refine PTi (pt_val he hh) fun σ H Q h => ?_
  obtain ⟨H0, B, env, G, g, s, h⟩ := h
  refine ⟨H0, B, env, G, g, s, ?_⟩
  unfold tVM at h
  cases q : fm env with
  | error er => rw [q] at h; exact h
  | ok r =>
    obtain ⟨d, env'⟩ := r
    rw [q] at h
    intro v H' G' gg sg s' rp
    have h : PostTM w W σ H0 B G ((bo (.d d)).bind fun b => .ok (b, env')) Q := h
    cases d with
    | bool b =>
      cases rp
      exact ⟨b, rfl, h H' G' gg sg s'⟩
    | _ => exact (h []).elim
def tNoM (f : Sl → M (Bool × Sl)) : Sl → M (Bool × Sl) := fun env => (f env).bind fun q => .ok (!q.1, q.2)
theorem xt_notM {f : Sl → M (Bool × Sl)} (ha : PT X a (rdTM w W f)) : PT X (.UnaryOp .Not a pos) (rdTM w W (tNoM f)) := by
  refine PTi (pt_not ha) fun σ H Q h => ?_
  obtain ⟨H0, B, env, G, g, s, h⟩ := h
  refine ⟨H0, B, env, G, g, s, ?_⟩
  unfold tNoM at h
  cases q : f env with
  | error er => rw [q] at h; exact h
  | ok r => rw [q] at h; exact h
def tAnM (f : Sl → M Bool) (k : Sl → M (Bool × Sl)) : Sl → M (Bool × Sl) := fun env => (f env).bind fun b => if b then k env else .ok (false, env)
theorem xw_and1M {f : Sl → M (Bool × Sl)} (h : PT X a (rdTM w W f)) : PW X (.BoolOp .And [a] pos) (rdTM w W f) := pw_and1 h
theorem PostTM.sub {σ : L2.St} {H0 B G G1 : Hp} {m : M (Bool × Sl)} {Q : Bool → Hp → Prop} (s : Same G G1) (h : PostTM w W σ H0 B G m Q) : PostTM w W σ H0 B G1 m Q := by
  cases m with
  | error er => exact h
  | ok r => exact fun H' G' gg sg s' => h H' G' gg (s.trans sg) s'
theorem xw_andM {rest : List Expr} {f : Sl → M Bool} {k : Sl → M (Bool × Sl)} (ok : w.Ok) (ha : PT X a (rdT w W f)) (hb : PW X (.BoolOp .And (b :: rest) pos) (rdTM w W k)) : PW X (.BoolOp .And (a :: b :: rest) pos) (rdTM w W (tAnM f k)) := by
  refine PWi (pw_and ha hb) fun σ H Q h => ?_
  obtain ⟨H0, B, env, G, g, s, h⟩ := h
  refine ⟨H0, B, env, G, g, s, ?_⟩
  unfold tAnM at h
  cases q : f env with
  | error er => rw [q] at h; exact PostX.up g h
  | ok r =>
    rw [q] at h
    intro H1 G1 g1
    cases r with
    | true => exact ⟨H0, B, env, G1, g.trans g1, s.grow ok g1, PostTM.sub g1.g h⟩
    | false => exact h H1 G1 (g.trans g1) g1.g (s.grow ok g1)
theorem xt_wM {f : Sl → M (Bool × Sl)} (h : PW X a (rdTM w W f)) : PT X a (rdTM w W f) := h.pt
def whGoM (c : Sl → M (Bool × Sl)) (g : Sl → M Oc) : Nat → Sl → M Oc
  | 0, _ => .error .stuck
  | n + 1, env => (c env).bind fun q => if q.1 then (g q.2).bind fun o => match o with
    | .nx e => whGoM c g n e
    | .ct e => whGoM c g n e
    | .bk e => .ok (.nx e)
    | .ret r => .ok (.ret r)
    | .rs r e => .ok (.rs r e)
    else .ok (.nx q.2)
theorem rd_whM {n : Nat} {c : Sl → M (Bool × Sl)} (ok : w.Ok) {D : Ends} {σ : L2.St} {H : Hp} (h : rdS w W (whGoM c g n) D σ H) : tWhile (rdTM w W c) (rdS w W g) D σ H := by
  obtain ⟨H0, B, env, G, gr, x, h⟩ := h
  refine ⟨fun m σ' H' => ∃ env' G', Grow H0 B H' G' ∧ Sim w H0 env' σ' H' G' ∧ PostS w W H0 B G' (whGoM c g m env') D, ⟨n, env, G, gr, x, h⟩, ?_⟩
  rintro m σ' H' ⟨env', G', gg, x', hp⟩
  cases m with
  | zero => exact (hp []).elim
  | succ m =>
    unfold whGoM at hp
    refine ⟨H0, B, env', G', gg, x', ?_⟩
    cases e : c env' with
    | error er => rw [e] at hp; exact hp
    | ok q =>
      obtain ⟨b, env1⟩ := q
      rw [e] at hp
      intro H1 G1 g1 s1 x1
      cases b with
      | false =>
        show D.nx σ' H1
        exact hp σ' H1 G1 g1 s1 x1
      | true =>
        have hp : PostS w W H0 B G' ((g env1).bind fun o => match o with
          | .nx e => whGoM c g m e
          | .ct e => whGoM c g m e
          | .bk e => .ok (.nx e)
          | .ret r => .ok (.ret r)
          | .rs r e => .ok (.rs r e)) D := hp
        rw [if_pos rfl]
        refine ⟨fun σ2 H2 => ∃ env' G', Grow H0 B H2 G' ∧ Sim w H0 env' σ2 H2 G' ∧ PostS w W H0 B G' (whGoM c g m env') D, fun σ2 H2 q => ⟨m, Nat.lt_succ_self m, q⟩, H0, B, env1, G1, g1, x1, ?_⟩
        cases e4 : g env1 with
        | error er => rw [e4] at hp; exact hp
        | ok o =>
          rw [e4] at hp
          cases o with
          | nx e5 => exact fun σ3 H3 G3 g3 s3 x3 => ⟨e5, G3, g3, x3, PostS.sub (s1.trans s3) hp⟩
          | ct e5 => exact fun σ3 H3 G3 g3 s3 x3 => ⟨e5, G3, g3, x3, PostS.sub (s1.trans s3) hp⟩
          | bk e5 => exact fun σ3 H3 G3 g3 s3 x3 => hp σ3 H3 G3 g3 (s1.trans s3) x3
          | ret r => exact hp
          | rs r e5 => exact fun σ3 v3 H3 G3 g3 s3 x3 => hp σ3 v3 H3 G3 g3 (s1.trans s3) x3
theorem xs_whileM {c : Expr} {body : List Stmt} {f : Sl → M (Bool × Sl)} (n : Nat) (ok : w.Ok) (hp : PassesOwn (model X.prog X.w) X.A X.env X.xe) (hc : PT X c (rdTM w W f)) (hb : PSs X body (rdS w W g)) : PS X (.While c body [] pos) (rdS w W (whGoM f g n)) := PSi (ps_while hp hc hb) fun D σ H h => rd_whM ok h
end
end Vs
end
section
namespace Vs
open PySem PySem.Spec PyProof.Rows L2

variable {w : Wd} {W : WX}
section
variable {X : Cx} {a b c e : Expr} {es : List Expr} {pos p : Pos} {fa fe fk : Sl → M R} {fs : Sl → M (List R)} {g : Sl → M Oc}
/-! ## a method that only reads -/
def iO (x : Str) (i : Nat) (mn : Str) (env : Sl) : Option (Bool × Fl) := match env[i]? with
  | some (some (.o _ y fl)) => if y = x ∧ fl.lookup mn = none then some (true, fl) else none
  | some (some (.io y fl)) => if y = x ∧ fl.lookup mn = none then some (false, fl) else none
  | _ => none
def eMthR (x : Str) (i n : Nat) (mn : Str) (m : List R → M R) : Sl → M R := fun env => match iO x i mn env with
  | some (b, fl) => if n = 0 then (quiet (m [.io x fl])).bind immO else .error .stuck
  | none => .error .stuck
theorem FlG.keys {G : Hp} {vf : List (Str × V)} {fl : Fl} (h : FlG G vf fl) {k : Str} : fl.lookup k = none → vf.lookup k = none := by
  induction h with
  | nil => intro _; rfl
  | @cons f q vs xs r s _ _ _ ih =>
    intro e
    by_cases hk : k = f
    · subst hk; simp [List.lookup] at e
    · have hb : (k == f) = false := beq_eq_false_iff_ne.mpr hk
      simp only [List.lookup, hb] at e ⊢
      exact ih e
theorem FlR.toG {H G : Hp} {L : List V} (s : Same G H) {vf : List (Str × V)} {fl : Fl} (h : FlR H G vf fl) : (∀ f u, (f, u) ∈ vf → u ∈ L) → FlG (addTo G H L) vf fl := by
  induction h with
  | nil => intro _; exact .nil
  | @cons f q vs xs r s' a b c d _ ih =>
    intro hs
    exact .cons (addTo_in (hs f _ List.mem_cons_self) a b) (RpL.mono addTo_g _ _ c) (ih fun g u m => hs g u (List.mem_cons_of_mem _ m))
theorem xe_methR {x mn nm : Str} {p1 apos : Pos} {k : Nat} {m : List R → M R} {pl : Sem Bool} (i : Nat) (ok : w.Ok) (hK : X.K = w.K) (hM : X.mg = w.mg) (D : MthR X.prog X.w w X.base x mn k 0 m) (hr : Room k X.A) (hx : PE X (.Name nm p1) (tVar i))
    (ht : eval (.Call (.Attribute (.Name nm p1) mn apos) [] [] pos) X.env = (do
      let ov ← eval (.Name nm p1) X.env
      standAt apos.atName
      let (f, first) ← holding [ov] (getMethod ov mn pl)
      callWith pos f first (backTo pos (starEach [] X.env)) (backToKw pos (keywordEach [] X.env))) := by rfl) (hcx : ∀ CX', CX' = L2.CX X.prog X.w → Passes CX' X E0 := by rintro _ rfl; exact passL) :
    PE X (.Call (.Attribute (.Name nm p1) mn apos) [] [] pos) (rdE w W (eMthR x i 0 mn m)) := by
  obtain ⟨C, f, fd, ps, hC, cc, hm, F, hb⟩ := D.ex
  rw [← hK, ← hM] at F
  rw [← hK] at cc hm hb
  refine PEi (pe_meth0 (E := E0) (pl := pl) hx cc hm F hr hb .nil (hcx _ rfl) ht) fun σ H Q h => ?_
  obtain ⟨H0, B, env, G, g, s, h⟩ := h
  unfold eMthR at h
  split at h
  · rename_i bb fl e1
    rw [if_pos rfl] at h
    cases e4 : quiet (m [.io x fl]) with
    | error er => rw [e4, quiet_err e4] at h; exact h.elim
    | ok r =>
      rw [e4] at h
      have h : PostE w W σ H G (immO r) Q := h
      have em := quiet_ok2 e4
      unfold iO at e1
      split at e1
      · rename_i op y fl' e2
        split at e1
        · rename_i hc
          obtain ⟨rfl, hk⟩ := hc
          cases e1
          obtain ⟨_, v, hv, ⟨p, C1, dx, vf, rfl, _, m1, n1, hp, fr1⟩, _⟩ := s.at_ i _ e2
          rw [hC] at m1
          cases m1
          refine ⟨.ref p, hv, p, dx, vf, rfl, hp, fr1.keys hk, ?_⟩
          have inL : ∀ f u, (f, u) ∈ vf → u ∈ (V.ref p :: vf.map (·.2)) := fun f u mm => List.mem_cons_of_mem _ (List.mem_map.mpr ⟨(f, u), mm, rfl⟩)
          refine ⟨rfl, addTo G H (V.ref p :: vf.map (·.2)), [.io y fl], addTo_h g.s, .cons ⟨p, C, dx, vf, rfl, hC, addTo_in List.mem_cons_self n1 hp, fr1.toG g.s inL⟩ .nil, (by intro r hr; simp at hr; rw [hr]; rfl), ?_⟩
          rw [em]
          intro v H2 B2 b rv fv
          cases ei : immO r with
          | error er =>
            rw [ei] at h
            cases er with
            | stuck => exact h.elim
            | exc z i => exact absurd ei (immO_tame r z i)
          | ok r' =>
            rw [ei] at h
            obtain ⟨e9, q⟩ := immO_ok ei
            rw [e9] at h
            refine h v H2 _ (Grow.drop (Grow.refl g.s) b) ?_ fv
            have notup : ∀ a xs, V.ref a ∈ (V.ref p :: vf.map (·.2)) → H a = some (.tup xs) → False := fun a xs mm ha => by
              rcases List.mem_cons.mp mm with e | mm
              · cases e; rw [hp] at ha; cases ha
              · obtain ⟨⟨f, u⟩, mm, e⟩ := List.mem_map.mp mm
                obtain ⟨q', vs', e2, _, e3⟩ := fr1.has mm
                have e' : u = V.ref a := e
                rw [e2] at e'
                cases e'
                rw [e3] at ha
                cases ha
            have stands : ∀ a, V.ref a ∈ (V.ref p :: vf.map (·.2)) → ∃ o, H a = some o := fun a mm => by
              rcases List.mem_cons.mp mm with e | mm
              · cases e; exact ⟨_, hp⟩
              · obtain ⟨⟨f, u⟩, mm, e⟩ := List.mem_map.mp mm
                obtain ⟨q', vs', e2, _, e3⟩ := fr1.has mm
                have e' : u = V.ref a := e
                rw [e2] at e'
                cases e'
                exact ⟨_, e3⟩
            have tk : ∀ a xs, B2 a = some (.tup xs) → dropFrom B2 G (V.ref p :: vf.map (·.2)) a = some (.tup xs) := fun a xs e => by
              unfold dropFrom
              split
              · rename_i z
                exfalso
                obtain ⟨o, ho⟩ := stands a z.1
                have e2 := b.s a _ e
                rw [b.h a o ho] at e2
                cases e2
                exact notup a xs z.1 ho
              · exact e
            rcases q with ⟨y, rfl, hi⟩ | ⟨b', ys, rfl, hi⟩
            · exact Rp.imm tk _ _ hi rv
            · obtain ⟨p2, us, e1, n2, h1, h2⟩ := rv
              refine ⟨p2, us, e1, ?_, h1, RpL.imm tk _ _ hi h2⟩
              unfold dropFrom
              split
              · rfl
              · exact n2
        · cases e1
      · rename_i y fl' e2
        split at e1
        · rename_i hc
          obtain ⟨rfl, hk⟩ := hc
          cases e1
          obtain ⟨_, v, hv, ⟨p, C1, dx, vf, rfl, m1, hp, fr1⟩, _⟩ := s.at_ i _ e2
          have m1' := m1
          rw [hC] at m1'
          cases m1'
          refine ⟨.ref p, hv, p, dx, vf, rfl, g.s _ _ hp, fr1.keys hk, rfl, G, [.io y fl], g.s, .cons ⟨p, C, dx, vf, rfl, hC, hp, fr1⟩ .nil, (by intro r hr; simp at hr; rw [hr]; rfl), ?_⟩
          rw [em]
          intro v H2 B2 b rv fv
          cases ei : immO r with
          | error er =>
            rw [ei] at h
            cases er with
            | stuck => exact h.elim
            | exc z i => exact absurd ei (immO_tame r z i)
          | ok r' =>
            rw [ei] at h
            obtain ⟨e9, _⟩ := immO_ok ei
            rw [e9] at h
            exact h v H2 B2 b rv fv
        · cases e1
      · cases e1
  · exact h.elim
/-! ## C(..).m().f -/
def nmEnd (p : Addr) : R → R → Option (List PD) → M (List PD)
  | .d .none, .o (some p') _ _, some xs => if p' = p then .ok xs else .error .stuck
  | _, _, _ => .error .stuck
theorem nmEnd_ok {p : Addr} {r1 r2 : R} {o : Option (List PD)} {xs : List PD} (h : nmEnd p r1 r2 o = .ok xs) : r1 = .d .none ∧ (∃ z1 z2, r2 = .o (some p) z1 z2) ∧ o = some xs := by
  unfold nmEnd at h
  split at h
  · split at h
    · rename_i e
      subst e
      cases h
      exact ⟨rfl, ⟨_, _, rfl⟩, rfl⟩
    · cases h
  · cases h
def nmf (m1 m2 : Mo) (mn f : Str) (rs : List R) (p : Addr) : M (List PD) := (quiet (m1 p [] rs)).bind fun q1 => if q1.2.lookup mn = none then (quiet (m2 p q1.2 [])).bind fun q2 => nmEnd p q1.1 q2.1 (q2.2.lookup f) else .error .stuck
noncomputable def eNMF (m1 m2 : Mo) (mn f : Str) (n : Nat) (fs : Sl → M (List R)) : Sl → M R := fun env => (fs env).bind fun rs => @dite _ (rs.length = n ∧ nOwn rs = true ∧ ∃ xs, ∀ p, nmf m1 m2 mn f rs p = .ok xs) (Classical.propDecidable _) (fun h => .ok (.l true h.2.2.choose)) fun _ => .error .stuck
theorem eNMF_ok {m1 m2 : Mo} {mn f : Str} {n : Nat} {fs : Sl → M (List R)} {env : Sl} {rs : List R} {xs : List PD} (h : fs env = .ok rs) (hl : rs.length = n) (ho : nOwn rs = true) (hx : ∀ p, nmf m1 m2 mn f rs p = .ok xs) : eNMF m1 m2 mn f n fs env = .ok (.l true xs) := by
  unfold eNMF
  rw [h]
  have hh : rs.length = n ∧ nOwn rs = true ∧ ∃ xs, ∀ p, nmf m1 m2 mn f rs p = .ok xs := ⟨hl, ho, xs, hx⟩
  show @dite _ _ (Classical.propDecidable _) _ _ = _
  rw [dif_pos hh]
  have := (hh.2.2.choose_spec 0).symm.trans (hx 0)
  rw [Except.ok.inj this]
theorem xe_nmf {x mn f : Str} {px p2 p3 p4 p5 : Pos} {k n : Nat} {fl : List Str} {m1 m2 : Mo} {pl : Sem Bool} (ok : w.Ok) (hK : X.K = w.K) (hM : X.mg = w.mg) (c : Kc w x fl) (hf : f ∈ fl) (D1 : Mkr X.prog X.w w X.base x k n m1) (D2 : Mth X.prog X.w w X.base x mn k 0 m2) (hr : Room (k + 1) X.A) (hg : Gl X x) (ha : PA X (e :: es) (rdA w W fs))
    (hdb : (x == ("__debug__" : Str)) = false := by decide) (he : starEach (e :: es) X.env = (false, eval e X.env) :: starEach es X.env := by rfl) (hpl : (backTo p2 (starEach es X.env)).any (·.1) = false := by rfl)
    (ht : eval (.Call (.Attribute (.Call (.Name x px) (e :: es) [] p2) mn p3) [] [] p4) X.env = (do
      let ov ← eval (.Call (.Name x px) (e :: es) [] p2) X.env
      standAt p3.atName
      let (f, first) ← holding [ov] (getMethod ov mn pl)
      callWith p4 f first (backTo p4 (starEach [] X.env)) (backToKw p4 (keywordEach [] X.env))) := by rfl)
    (hb : attributeBase (.Call (.Attribute (.Call (.Name x px) (e :: es) [] p2) mn p3) [] [] p4) f X.env (eval (.Call (.Attribute (.Call (.Name x px) (e :: es) [] p2) mn p3) [] [] p4) X.env) = eval (.Call (.Attribute (.Call (.Name x px) (e :: es) [] p2) mn p3) [] [] p4) X.env := by rfl)
    (hcx : ∀ CX', CX' = L2.CX X.prog X.w → Passes CX' X E0 := by rintro _ rfl; exact passL) :
    PE X (.Attribute (.Call (.Attribute (.Call (.Name x px) (e :: es) [] p2) mn p3) [] [] p4) f p5) (rdE w W (eNMF m1 m2 mn f n fs)) := by
  obtain ⟨C, f1, fd1, ps1, hC, cc, hmk, F1, hb1⟩ := D1.ex
  obtain ⟨C2, f2, fd2, ps2, hC2, _, hm2, F2, hb2⟩ := D2.ex
  rw [hC] at hC2
  cases hC2
  obtain ⟨C3, hC3, _, na⟩ := c.ex
  rw [hC] at hC3
  cases hC3
  have hCm := hC
  rw [← hM] at hCm
  rw [← hK, ← hM] at F1 F2
  rw [← hK] at cc hmk hm2 hb1 hb2
  have na := na f hf
  rw [← hK] at na
  refine PEi (pe_fld (pe_meth0 (E := E0) (pl := pl) (pe_make (E := E0) hmk F1 hr hg hCm hb1 .nil (hcx _ rfl) ha hdb he hpl) cc hm2 F2 (hr.mono (Nat.le_succ k)) hb2 .nil (hcx _ rfl) ht) hb) fun σ H Q h => ?_
  obtain ⟨H0, B, env, G, g, s, h⟩ := h
  refine ⟨H0, B, env, G, g, s, ?_⟩
  unfold eNMF at h
  cases e3 : fs env with
  | error er => rw [e3] at h; exact PostE.err.mp h
  | ok rs =>
    rw [e3] at h
    intro vs H1 G1 g1 rr fr
    have h : PostE w W σ H G (@dite _ (rs.length = n ∧ nOwn rs = true ∧ ∃ xs, ∀ p, nmf m1 m2 mn f rs p = .ok xs) (Classical.propDecidable _) (fun h => .ok (.l true h.2.2.choose)) fun _ => .error .stuck) Q := h
    by_cases hh : rs.length = n ∧ nOwn rs = true ∧ ∃ xs, ∀ p, nmf m1 m2 mn f rs p = .ok xs
    · rw [dif_pos hh] at h
      obtain ⟨hl, ho, hx⟩ := hh
      have hsp := hx.choose_spec
      generalize hx.choose = xs at hsp h
      intro x0 dx nx nd hne
      have hq := hsp x0
      unfold nmf at hq
      cases e4 : quiet (m1 x0 [] rs) with
      | error er => rw [e4] at hq; cases hq
      | ok q1 =>
        rw [e4] at hq
        obtain ⟨r1, fl1⟩ := q1
        have hq : (if fl1.lookup mn = none then (quiet (m2 x0 fl1 [])).bind fun q2 => nmEnd x0 r1 q2.1 (q2.2.lookup f) else .error .stuck : M (List PD)) = .ok xs := hq
        split at hq
        · rename_i hlk
          cases e5 : quiet (m2 x0 fl1 []) with
          | error er => rw [e5] at hq; cases hq
          | ok q2 =>
            obtain ⟨r2, fl2⟩ := q2
            rw [e5] at hq
            have hq : nmEnd x0 r1 r2 (fl2.lookup f) = .ok xs := hq
            obtain ⟨rfl, ⟨z1, z2, rfl⟩, hlf⟩ := nmEnd_ok hq
            -- the new instance
            have s2 : Same G1 (upd (upd H1 dx (.own x0)) x0 (.ins C dx [])) := fun a o z => by
              rw [upd_ne (fun q => by rw [q, g1.s.free nx] at z; cases z), upd_ne (fun q => by rw [q, g1.s.free nd] at z; cases z)]
              exact g1.s a o z
            have h12 : ∀ a o, H1 a = some o → (upd (upd H1 dx (.own x0)) x0 (.ins C dx [])) a = some o ∧ a ≠ x0 := fun a o z => by
              have q1 : a ≠ x0 := fun q => by rw [q, nx] at z; cases z
              have q2 : a ≠ dx := fun q => by rw [q, nd] at z; cases z
              exact ⟨by rw [upd_ne q1, upd_ne q2]; exact z, q1⟩
            have ft : ∀ a, foot (upd (upd H1 dx (.own x0)) x0 (.ins C dx [])) (.o none x []) (.ref x0) a → a = x0 := fun a fa => by
              rcases fa with fa | ⟨p9, C9, dx9, vf9, k9, e9, h9, m9⟩
              · cases fa; rfl
              · cases e9
                rw [upd_same] at h9
                cases h9
                cases m9
            generalize hH2 : upd (upd H1 dx (.own x0)) x0 (.ins C dx []) = H2 at s2 h12 ft
            have rr2 : RrL w H2 G1 vs rs := by
              have : ∀ {us : List V} {ss : List R}, RrL w H1 G1 us ss → (∀ r ∈ ss, r.own = false) → RrL w H2 G1 us ss := by
                intro us ss hrr
                induction hrr with
                | nil => intro _; exact .nil
                | cons r1 _ ih =>
                  intro ho
                  refine .cons (r1.keep ok (Same.refl G1) fun a o f _ => ?_) (ih fun r hr => ho r (List.mem_cons_of_mem _ hr))
                  have := foot_own f
                  rw [ho _ List.mem_cons_self] at this
                  cases this
              exact this rr (nOwn_ok ho)
            rw [List.append_nil]
            refine ⟨by rw [List.length_cons, rr.length, hl], x0, vs, G1, [], rs, .d .none, fl1, rfl, s2, ⟨x0, C, dx, [], rfl, (fun _ z => by cases z), hC, g1.s.free nx, by rw [← hH2]; exact upd_same, .nil⟩, rr2, nOwn_ok ho, quiet_ok2 e4, fun v H3 G3 gr3 ro3 rv3 fv3 hf3 => ?_⟩
            cases rv3
            refine ⟨rfl, ?_⟩
            have h13 : ∀ a o, H1 a = some o → H3 a = some o := fun a o z => gr3.h a o (by rw [hid_out (fun f => (h12 a o z).2 (ft a f))]; exact (h12 a o z).1)
            have no3 : ∀ a o, H1 a = some o → ¬ foot H3 (.o none x fl1) (.ref x0) a := fun a o z f => by
              rcases hf3 a f with f | f
              · exact (h12 a o z).2 (ft a f)
              · rw [(h12 a o z).1] at f; cases f
            obtain ⟨p8, C8, dx8, vf8, e8, _, m8, n8, hp8, fl8⟩ := ro3
            have ro3 : Rr w H3 G3 (.ref x0) (.o none x fl1) := ⟨p8, C8, dx8, vf8, e8, (fun _ z => by cases z), m8, n8, hp8, fl8⟩
            cases e8
            rw [hC] at m8
            cases m8
            refine ⟨x0, dx8, vf8, rfl, hp8, fl8.keys hlk, rfl, x0, [], G3, fl1, [], .o (some x0) z1 z2, fl2, rfl, gr3.s, ro3, .nil, (fun _ h => by cases h), quiet_ok2 e5, fun v H4 G4 gr4 ro4 rv4 fv4 hf4 => ?_⟩
            have := rv4.isP
            subst this
            obtain ⟨p7, C7, dx7, vf7, e7, _, m7, n7, hp7, fl7⟩ := ro4
            cases e7
            rw [hC] at m7
            cases m7
            obtain ⟨q, us, l1, l2, l3, l4, l5⟩ := fl7.look hlf
            refine ⟨x0, C, dx7, vf7, .ref q, rfl, hp7, cc, na, l1, ?_⟩
            have hid3 : ∀ a o, H1 a = some o → hid H3 (foot H3 (.o none x fl1) (.ref x0)) a = some o := fun a o z => by rw [hid_out (no3 a o z)]; exact h13 a o z
            have gg : Grow H1 G1 H4 G4 := ⟨fun a o z => gr4.h a o (hid3 a o z), gr3.g.trans gr4.g, gr4.s, fun a o f z1 z2 => gr4.a a o f (gr3.a a o f z1 (by rw [hid_out (fun f => (h12 a o z2).2 (ft a f))]; exact (h12 a o z2).1)) (hid3 a o z2)⟩
            refine h (.ref q) H4 G4 (g1.trans gg) ⟨q, us, rfl, l3, l4, l5⟩ fun _ y ey => ?_
            cases ey
            have f4 : foot H4 (.o none x fl2) (.ref x0) q := .inr ⟨x0, C, dx7, vf7, f, rfl, hp7, l2⟩
            cases e6 : H q with
            | none => rfl
            | some o =>
              exfalso
              have z := g1.h q o e6
              rcases hf4 q f4 with f | f
              · exact no3 q o z f
              · rw [h13 q o z] at f; cases f
        · cases hq
    · rw [dif_neg hh] at h
      exact h.elim
end
end Vs
end
section
namespace Vs
open PySem PySem.Spec PyProof.Rows L2

variable {w : Wd} {W : WX}
/-! ## a text among a module's tuple of texts -/
structure Kt (w : Wd) (x : Str) (ks : List Str) : Prop where
  ex : ∃ a, w.mg x = some (.ref a) ∧ ∀ H, SqT w.K H a (ks.map V.str)
theorem kt_of {w : Wd} {x : Str} {ks : List Str} (h1 : w.mg x = some (.ref (He.ga w.K x))) (h2 : He.tupB w.K x (ks.map He.Dv.str) = true) : Kt w x ks :=
  ⟨_, h1, fun H => by
    have := He.tupB_ok h2 H
    rw [List.map_map] at this
    exact this⟩
def oNiK (ks : List Str) : R → M R := fun r => match r with
  | .d (.str s) => .ok (.d (.bool (!decide (s ∈ ks))))
  | _ => .error .stuck
theorem inV_strs (s : Str) : ∀ ks : List Str, inV (.str s) (ks.map V.str) = decide (s ∈ ks)
  | [] => rfl
  | k :: ks => by
    have ih := inV_strs s ks
    unfold inV at ih ⊢
    simp only [List.map_cons, List.any_cons, ih, List.mem_cons, Bool.decide_or]
    congr 1
    unfold eqV
    by_cases e : s = k
    · subst e; simp
    · have e' : ¬ k = s := fun z => e z.symm
      simp [e, e']
section
variable {X : Cx} {a b c e : Expr} {es : List Expr} {pos p : Pos} {fa fe fk : Sl → M R}
theorem xt_notInK {x : Str} {ks : List Str} {p2 : Pos} (ok : w.Ok) (hK : X.K = w.K) (hM : X.mg = w.mg) (kt : Kt w x ks) (hg : Gl X x) (ha : PE X a (rdE w W fa)) (hd : (x == ("__debug__" : Str)) = false := by decide) (hm : behindInMarks .NotIn (.Name x p2) = false := by first | rfl | with_unfolding_all rfl) :
    PT X (.Compare a [.NotIn] [.Name x p2] pos) (rdT w W (tV (eUn (oNiK ks) fa))) := by
  obtain ⟨t, h1, h2⟩ := kt.ex
  refine PTi (pt_cmpR op_notIn_seq ha (pe_glob (v := .ref t) hg (by rw [hM]; exact h1) rfl hd) hm) fun σ H Q h => ?_
  obtain ⟨H0, B, env, G, g, s, h⟩ := h
  refine ⟨H0, B, env, G, g, s, ?_⟩
  unfold tV eUn at h
  cases e1 : fa env with
  | error er => rw [e1] at h; exact PostE.err.mpr h
  | ok r =>
    rw [e1] at h
    intro v H1 G1 g1 rr fr
    have h : PostT w W σ H G ((oNiK ks r).bind bo) Q := h
    cases r with
    | d y =>
      cases y with
      | str z =>
        cases rr
        refine ⟨t, ks.map V.str, rfl, .inr (by rw [hK]; exact h2 H1), rfl, by simp [flatV], _, rfl, ?_⟩
        rw [if_pos rfl, inV_strs]
        exact h H1 G1 g1
      | _ => exact h.elim
    | _ => exact h.elim
theorem Mth.mono {P : Program} {wd : World} {base : Heap} {x mn : Str} {j k n : Nat} {m : Mo} (D : Mth P wd w base x mn j n m) (h : j ≤ k) : Mth P wd w base x mn k n m := by
  obtain ⟨C, f, fd, ps, a, b, c, F, d⟩ := D.ex
  exact ⟨C, f, fd, ps, a, b, c, F.mono h, d⟩
theorem MthR.mono {P : Program} {wd : World} {base : Heap} {x mn : Str} {j k n : Nat} {m : List R → M R} (D : MthR P wd w base x mn j n m) (h : j ≤ k) : MthR P wd w base x mn k n m := by
  obtain ⟨C, f, fd, ps, a, b, c, F, d⟩ := D.ex
  exact ⟨C, f, fd, ps, a, b, c, F.mono h, d⟩
theorem Mkr.mono {P : Program} {wd : World} {base : Heap} {x : Str} {j k n : Nat} {m : Mo} (D : Mkr P wd w base x j n m) (h : j ≤ k) : Mkr P wd w base x k n m := by
  obtain ⟨C, f, fd, ps, a, b, c, F, d⟩ := D.ex
  exact ⟨C, f, fd, ps, a, b, c, F.mono h, d⟩
/-! ### repr of a bool -/
def oRepB : R → M R := fun r => match r with
  | .d (.bool b) => .ok (.d (.str (if b then "True" else "False")))
  | _ => .error .stuck
theorem oRepB_tame (r : R) (x : Str) (i : Option Int) : oRepB r ≠ .error (.exc x i) := fun e => by
  unfold oRepB at e; split at e <;> cases e
/-! ### try: e except SwapError as n: y = n -/
def sTryE (names : List Str) (i k : Nat) (f : Sl → M R) : Sl → M Oc := fun env => match f env with
  | .ok r => .ok (.nx env)
  | .error (.exc z none) => if z ∈ names ∧ i < env.length ∧ k < env.length ∧ i ≠ k then .ok (.nx (((env.set i none).set k (some (.e z none))).set i none)) else .error .stuck
  | .error _ => .error .stuck
theorem xs_tryE {names : List Str} {i k : Nat} {n y : Str} {py pn2 ps1 ps2 np pos' : Pos} (ok : w.Ok) (hK : X.K = w.K) (hM : X.mg = w.mg) (S : Xs w names) (hs : X.stack = X.env :: X.outer) (hf : X.env.frame = some X.env.locals) (hex : X.ex = []) (hN : X.N.Nodup)
    (hi : X.N[i]? = some n) (hln : X.env.kindOf n = some .local) (hk : X.N[k]? = some y) (hkl : Loc X.env.scope y) (hkf : X.fn y = true ∨ X.env.scope.names.lookup y = some .local) (hgS : Gl X "SwapError")
    (hb : ∀ (W : WX) (pn : List (Addr × Obj)) (xe : Value → Shared → Prop), Takes (X.tr pn xe) W → PE (X.tr pn xe) e (rdE w W fe))
    (hsw : swapsWith e none ps1.line X.env = pure false := by rfl) (hsw2 : swapsWith (.Name n pn2) (some (.Name y py)) ps2.line X.env = pure false := by rfl) (hdn : (n == ("__debug__" : Str)) = false := by decide) (hcd : (n == ("__classdict__" : Str)) = false := by decide) :
    PS X (.Try [.Expr e ps1] [.ExceptHandler (some (.Name "SwapError" np)) (some n) [.Assign [.Name y py] (.Name n pn2) ps2] pos'] [] [] pos) (rdS w W (sTryE names i k fe)) := by
  have hlocN : X.env.scope.names.lookup n = some .local := hln
  refine PSi (ps_try_keep (c := .ref (He.ga w.K "SwapError")) (tb := fun W D σ H => rdE w W fe σ H fun _ H1 => D.nx σ H1) (ts := fun D σ H => tVar i σ H fun v H1 => D.nx (σ.set k (some v)) H1) hs hf hN hi hln ⟨hgS, by decide, .inl (by rw [hM]; exact S.top)⟩ hex
    (fun W pn xe tk po => pss_one (ps_expr (X := X.tr pn xe) (hb W pn xe tk) hsw)) (fun a pn => pss_one (ps_set (X := X.suite a pn) hN hk hkl (pv i hi (.inl hlocN) hdn hcd) hsw2 hkf))) fun D σ H h => ?_
  obtain ⟨H0, B, env, G, g, x0, h⟩ := h
  refine ⟨H0, B, env, G, g, x0, ?_⟩
  unfold sTryE at h
  cases q : fe env with
  | ok r =>
    rw [q] at h
    intro v H1 G1 g1 rr fr
    exact h σ H1 G1 (g.trans g1) g1.g (x0.grow ok g1)
  | error er =>
    rw [q] at h
    cases er with
    | stuck => exact (h []).elim
    | exc z at_ =>
      cases at_ with
      | some l => exact (h []).elim
      | none =>
        dsimp only at h
        split at h
        · rename_i hz
          obtain ⟨hz1, hz2, hz3, hz4⟩ := hz
          obtain ⟨c1, c2, c3, c4⟩ := S.all hz1
          intro C H1 G1 hC g1
          rw [S.at_ z hz1] at hC
          cases hC
          refine ⟨by rw [hK]; exact c3, fun a ha _ => ?_⟩
          have hiσ : i < σ.length := by rw [← x0.len]; exact hz2
          refine ⟨.ref a, by simp [hiσ], ?_⟩
          have gl : Grow H1 G1 (upd H1 a (ExK (.ref (He.ga w.K z)) none a)) (upd G1 a (ExK (.ref (He.ga w.K z)) none a)) := Grow.lay g1.s ha
          have x1 := (x0.grow ok g1).grow ok gl
          have x2 := x1.forget (i := i) (o := some (.ref a))
          have x3 := Sim.set (i := k) (r := .e z none) (v := .ref a) x2 (by simpa using hz3) rfl ⟨a, rfl, by rw [S.exo]; exact ⟨_, none, S.at_ z hz1, upd_same, rfl⟩⟩ (fun _ f => f.elim) (fun _ _ _ _ _ _ _ f => f.elim)
          have x4 := x3.forget (i := i) (o := none)
          exact h _ _ _ ((g.trans g1).trans gl) (g1.g.trans gl.g) x4
        · exact (h []).elim
end
end Vs
end
section
namespace Vs
open PySem PySem.Spec PyProof.Rows L2

variable {w : Wd} {W : WX}
/-! ## an expression over a slot's own list that is only read meanwhile -/
theorem addTo_one {G H : Hp} {p : Addr} {o : HO} (n : G p = none) (h : H p = some o) : addTo G H [.ref p] = upd G p o := by
  funext a
  unfold addTo
  by_cases e : a = p
  · subst e
    rw [if_pos (by simp), n, upd_same, h]
  · rw [if_neg (by simp; exact e), upd_ne e]
/-- a slot's own list seen as data, the part for good being wider -/
theorem Sim.frz {H0 : Hp} {env : Sl} {σ : L2.St} {H G : Hp} {i : Nat} {b : Bool} {xs : List PD} (ok : w.Ok) (x : Sim w H0 env σ H G) (e1 : env[i]? = some (some (.l b xs))) :
    ∃ p vs, σ[i]? = some (some (.ref p)) ∧ H0 p = none ∧ G p = none ∧ H p = some (.lst vs) ∧ RpL G vs xs ∧ Sim w H0 (env.set i (some (.d (.list xs)))) σ H (upd G p (.lst vs)) := by
  obtain ⟨hh, v, hv, rr, h0⟩ := x.at_ i _ e1
  obtain ⟨p, vs, rfl, nG, h1, h2⟩ := rr
  have n0 := h0 p rfl
  have hi : i < env.length := (List.getElem?_eq_some_iff.mp e1).1
  have sG : Same G (upd G p (.lst vs)) := Same.new nG
  have off : ∀ {j : Nat} {r1 : R} {u : V}, j ≠ i → env[j]? = some (some r1) → σ[j]? = some (some u) → ∀ a, foot H r1 u a → a ≠ p := fun {j r1 u} hj e2 s1 a f z => hj (by
    subst z
    exact x.inj j i r1 _ u _ a e2 e1 s1 hv f rfl)
  refine ⟨p, vs, hv, n0, nG, h1, h2, ⟨by simp [x.len], fun j r1 e2 => ?_, fun j k r1 r2 u1 u2 y e2 e3 s1 s2 f1 f2 => ?_⟩⟩
  · by_cases hj : j = i
    · subst hj
      rw [List.getElem?_set_self hi] at e2
      cases e2
      exact ⟨rfl, _, hv, Rp.lst upd_same (RpL.mono sG _ _ h2), fun _ q => q.elim⟩
    · rw [List.getElem?_set_ne (Ne.symm hj)] at e2
      obtain ⟨a, u, c, d, f⟩ := x.at_ j r1 e2
      refine ⟨a, u, c, d.keep ok sG fun q o fq hq => ?_, f⟩
      obtain ⟨nq, _⟩ := foot_has d fq
      exact ⟨hq, by rw [upd_ne (off hj e2 c q fq)]; exact nq⟩
  · have low : ∀ {l : Nat} {r3 : R} {u : V}, (env.set i (some (.d (.list xs))))[l]? = some (some r3) → foot H r3 u y → l ≠ i ∧ env[l]? = some (some r3) := fun {l r3 u} q1 q2 => by
      by_cases hl : l = i
      · subst hl
        rw [List.getElem?_set_self hi] at q1
        cases q1
        exact q2.elim
      · rw [List.getElem?_set_ne (Ne.symm hl)] at q1
        exact ⟨hl, q1⟩
    obtain ⟨_, e2⟩ := low e2 f1
    obtain ⟨_, e3⟩ := low e3 f2
    exact x.inj j k r1 r2 u1 u2 y e2 e3 s1 s2 f1 f2
section
variable {X : Cx} {a b c e : Expr} {es : List Expr} {pos p : Pos} {fa fe fk : Sl → M R} {g : Sl → M Oc}
def eImm (i : Nat) (f : Sl → M R) : Sl → M R := fun env => match env[i]? with
  | some (some (.l _ xs)) => (quiet (f (env.set i (some (.d (.list xs)))))).bind immO
  | _ => .error .stuck
theorem xe_imm (i : Nat) (ok : w.Ok) (he : PE X e (rdE w W fe)) : PE X e (rdE w W (eImm i fe)) := by
  refine PEi he fun σ H Q h => ?_
  obtain ⟨H0, B, env, G, g, s, h⟩ := h
  unfold eImm at h
  split at h
  · rename_i b xs e1
    obtain ⟨p, vs, hv, n0, nG, hp, hr, s2⟩ := s.frz ok e1
    have e9 := addTo_one nG hp
    refine ⟨H0, B, env.set i (some (.d (.list xs))), upd G p (.lst vs), g.keep n0 hp nG, s2, ?_⟩
    cases e4 : quiet (fe (env.set i (some (.d (.list xs))))) with
    | error er => rw [e4, quiet_err e4] at h; exact h.elim
    | ok r =>
      rw [e4] at h
      rw [quiet_ok2 e4]
      intro v H2 B2 b2 rv fv
      have h : PostE w W σ H G (immO r) Q := h
      cases ei : immO r with
      | error er =>
        rw [ei] at h
        cases er with
        | stuck => exact h.elim
        | exc z i => exact absurd ei (immO_tame r z i)
      | ok r' =>
        rw [ei] at h
        obtain ⟨e8, q⟩ := immO_ok ei
        rw [e8] at h
        have b3 : Grow H (addTo G H [.ref p]) H2 B2 := by rw [e9]; exact b2
        refine h v H2 _ (Grow.drop (Grow.refl g.s) b3) ?_ fv
        have tk : ∀ a xs, B2 a = some (.tup xs) → dropFrom B2 G [.ref p] a = some (.tup xs) := fun a ys e => by
          unfold dropFrom
          split
          · rename_i z
            exfalso
            have z1 := z.1
            simp at z1
            subst z1
            have := b2.s a _ e
            rw [b2.h a _ hp] at this
            cases this
          · exact e
        rcases q with ⟨y, rfl, hi⟩ | ⟨b', ys, rfl, hi⟩
        · exact Rp.imm tk _ _ hi rv
        · obtain ⟨p2, us, e1, n2, h1, h2⟩ := rv
          refine ⟨p2, us, e1, ?_, h1, RpL.imm tk _ _ hi h2⟩
          unfold dropFrom
          split
          · rfl
          · exact n2
  · exact h.elim
end
end Vs
end
section
namespace Vs
open PySem PySem.Spec PyProof.Rows L2

variable {w : Wd} {W : WX}
/-! ## a loop over a slot's own list that stays as it is -/
theorem Sim.reR {H0 : Hp} {env : Sl} {σ : L2.St} {H G : Hp} {i : Nat} {r r' : R} {v : V} (x : Sim w H0 env σ H G) (e : env[i]? = some (some r)) (hv : σ[i]? = some (some v)) (hh : r'.held = r') (rr : Rr w H G v r → Rr w H G v r') (hf : ∀ a, foot H r' v a → foot H r v a) :
    Sim w H0 (env.set i (some r')) σ H G := by
  have hi : i < env.length := (List.getElem?_eq_some_iff.mp e).1
  have low : ∀ {l : Nat} {r1 : R} {u : V} {a : Addr}, (env.set i (some r'))[l]? = some (some r1) → σ[l]? = some (some u) → foot H r1 u a → ∃ r3, env[l]? = some (some r3) ∧ foot H r3 u a := fun {l r1 u a} q1 q2 f => by
    by_cases hl : l = i
    · subst hl
      rw [List.getElem?_set_self hi] at q1
      cases q1
      rw [hv] at q2
      cases q2
      exact ⟨r, e, hf a f⟩
    · rw [List.getElem?_set_ne (Ne.symm hl)] at q1
      exact ⟨r1, q1, f⟩
  refine ⟨by simp [x.len], fun j r1 e1 => ?_, fun j k r1 r2 u1 u2 a e1 e2 s1 s2 f1 f2 => ?_⟩
  · by_cases hj : j = i
    · subst hj
      rw [List.getElem?_set_self hi] at e1
      cases e1
      obtain ⟨_, u, b, c, d⟩ := x.at_ j r e
      rw [hv] at b
      cases b
      exact ⟨hh, v, hv, rr c, fun a f => d a (hf a f)⟩
    · rw [List.getElem?_set_ne (Ne.symm hj)] at e1
      exact x.at_ j r1 e1
  · obtain ⟨r3, e3, f3⟩ := low e1 s1 f1
    obtain ⟨r4, e4, f4⟩ := low e2 s2 f2
    exact x.inj j k r3 r4 u1 u2 a e3 e4 s1 s2 f3 f4
def Runs (i : Nat) (P : Addr) (ys : List PD) (fG : PD → Sl → M Sl) (g : Sl → M Oc) : List PD → Sl → Sl → Prop
  | [], env, e2 => env = e2 ∧ env[i]? = some (some (.lk P ys))
  | x :: xs, env, e2 => env[i]? = some (some (.lk P ys)) ∧ ∃ e1 e3, fG x env = .ok e1 ∧ (g e1 = .ok (.nx e3) ∨ g e1 = .ok (.ct e3)) ∧ Runs i P ys fG g xs e3 e2
theorem Runs.at_ {i : Nat} {P : Addr} {ys : List PD} {fG : PD → Sl → M Sl} {g : Sl → M Oc} : ∀ {xs : List PD} {env e2 : Sl}, Runs i P ys fG g xs env e2 → env[i]? = some (some (.lk P ys))
  | [], _, _, h => h.2
  | _ :: _, _, _, h => h.1
theorem Runs.det {i : Nat} {P : Addr} {ys : List PD} {fG : PD → Sl → M Sl} {g : Sl → M Oc} : ∀ {xs : List PD} {env e2 e3 : Sl}, Runs i P ys fG g xs env e2 → Runs i P ys fG g xs env e3 → e2 = e3
  | [], _, _, _, h, k => h.1.symm.trans k.1
  | x :: xs, env, e2, e3, ⟨_, a1, a3, b1, b2, b3⟩, ⟨_, c1, c3, d1, d2, d3⟩ => by
    rw [b1] at d1
    cases d1
    have : a3 = c3 := by
      rcases b2 with b2 | b2 <;> rcases d2 with d2 | d2 <;> rw [b2] at d2 <;> cases d2 <;> rfl
    subst this
    exact Runs.det b3 d3
noncomputable def sForK (i : Nat) (fG : PD → Sl → M Sl) (g : Sl → M Oc) : Sl → M Oc := fun env => match env[i]? with
  | some (some (.l _ xs)) => @dite _ (∃ e2 : Sl, i < e2.length ∧ ∀ p, Runs i p xs fG g xs (env.set i (some (.lk p xs))) (e2.set i (some (.lk p xs)))) (Classical.propDecidable _) (fun h => .ok (.nx (h.choose.set i (some (.l false xs))))) fun _ => .error .stuck
  | _ => .error .stuck
theorem sForK_ok {i : Nat} {fG : PD → Sl → M Sl} {g : Sl → M Oc} {env e2 : Sl} {b : Bool} {xs : List PD} (h : env[i]? = some (some (.l b xs))) (hi : i < e2.length) (hr : ∀ p, Runs i p xs fG g xs (env.set i (some (.lk p xs))) (e2.set i (some (.lk p xs)))) : sForK i fG g env = .ok (.nx (e2.set i (some (.l false xs)))) := by
  unfold sForK
  rw [h]
  have hh : ∃ e2 : Sl, i < e2.length ∧ ∀ p, Runs i p xs fG g xs (env.set i (some (.lk p xs))) (e2.set i (some (.lk p xs))) := ⟨e2, hi, hr⟩
  show @dite _ _ (Classical.propDecidable _) _ _ = _
  rw [dif_pos hh]
  have e := Runs.det (hh.choose_spec.2 0) (hr 0)
  have : (hh.choose.set i (some (.lk 0 xs))).set i (some (.l false xs)) = (e2.set i (some (.lk 0 xs))).set i (some (.l false xs)) := by rw [e]
  rw [List.set_set, List.set_set] at this
  rw [this]
theorem rd_forK {K : PySem.W.Frag} {i : Nat} {is : List Nat} {fG : PD → Sl → M Sl} {g : Sl → M Oc} (hK : K = w.K) {D : Ends} {σ : L2.St} {H : Hp} (h : rdS w W (sForK i fG g) D σ H) : tFor (iList K (tVar i)) (rdG w is fG) (rdS w W g) D σ H := by
  subst hK
  obtain ⟨H0, B, env, G, gr, x, h⟩ := h
  unfold sForK at h
  split at h
  · rename_i b xs e1
    by_cases hh : ∃ e2 : Sl, i < e2.length ∧ ∀ p, Runs i p xs fG g xs (env.set i (some (.lk p xs))) (e2.set i (some (.lk p xs)))
    · rw [dif_pos hh] at h
      obtain ⟨hi2, hs⟩ := hh.choose_spec
      generalize hh.choose = e2 at h hi2 hs
      obtain ⟨hh0, v, hv, rr, h0⟩ := x.at_ i _ e1
      obtain ⟨p, vs, rfl, nG, hp, hr⟩ := rr
      have x1 : Sim w H0 (env.set i (some (.lk p xs))) σ H G := x.reR e1 hv rfl (fun _ => ⟨vs, rfl, nG, hp, hr⟩) fun a f => f
      refine ⟨.ref p, hv, p, rfl, ⟨vs, SqL.of hp⟩, ?_⟩
      refine ⟨fun k m σ' H' => m = xs.length - k ∧ k ≤ xs.length ∧ ∃ env' G', Grow H0 B H' G' ∧ Same G G' ∧ Sim w H0 env' σ' H' G' ∧ Runs i p xs fG g (xs.drop k) env' (e2.set i (some (.lk p xs))),
        ⟨xs.length, by simp, Nat.zero_le _, env.set i (some (.lk p xs)), G, gr, Same.refl G, x1, by rw [List.drop_zero]; exact hs p⟩, ?_⟩
      rintro k m σ' H' ⟨rfl, hk, env', G', gg, s1, x', ru⟩
      have ea := ru.at_
      obtain ⟨_, v', hv', ⟨us, rfl, n', hp', hr'⟩, h0'⟩ := x'.at_ i _ ea
      by_cases hlt : k < xs.length
      · have hdrop : xs.drop k = xs[k] :: xs.drop (k + 1) := List.drop_eq_getElem_cons hlt
        rw [hdrop] at ru
        obtain ⟨_, e3, e4, f1, f2, f3⟩ := ru
        obtain ⟨u, hu, _⟩ := hr'.get (List.getElem?_eq_getElem hlt)
        refine .inr ⟨⟨us, u, SqL.of hp', hu⟩, fun σ2 H2 => k + 1 ≤ xs.length ∧ ∃ env' G', Grow H0 B H2 G' ∧ Same G G' ∧ Sim w H0 env' σ2 H2 G' ∧ Runs i p xs fG g (xs.drop (k + 1)) env' (e2.set i (some (.lk p xs))),
          fun σ2 H2 q => ⟨xs.length - (k + 1), by omega, rfl, q.1, q.2⟩, fun v H2 y => ?_⟩
        obtain ⟨rfl, y⟩ := y
        have hvk := y us (SqL.of hp')
        obtain ⟨d, hd, rd⟩ := hr'.getV hvk
        rw [List.getElem?_eq_getElem hlt] at hd
        cases hd
        refine ⟨H0, B, env', G', xs[k], gg, x', rd, ?_⟩
        rw [f1]
        refine fun σ2 x2 _ => ⟨H0, B, e3, G', gg, x2, ?_⟩
        rcases f2 with f2 | f2
        · rw [f2]
          exact fun σ3 H3 G3 g3 s3 x3 => ⟨hlt, e4, G3, g3, s1.trans s3, x3, f3⟩
        · rw [f2]
          exact fun σ3 H3 G3 g3 s3 x3 => ⟨hlt, e4, G3, g3, s1.trans s3, x3, f3⟩
      · have hk' : k = xs.length := by omega
        rw [hk', List.drop_length] at ru
        refine .inl ⟨⟨us, SqL.of hp', by rw [hr'.length, hk']; exact Nat.le_refl _⟩, ?_⟩
        obtain ⟨rfl, _⟩ := ru
        have x2 := x'.reR (r' := .l false xs) ea hv' rfl (fun _ => ⟨p, us, rfl, n', hp', hr'⟩) fun a f => f
        rw [List.set_set] at x2
        exact h σ' H' G' gg s1 x2
    · rw [dif_neg hh] at h
      exact (h []).elim
  · exact (h []).elim
section
variable {X : Cx} {pos p : Pos} {g : Sl → M Oc}
theorem xs_forK {tg : Expr} {nm : Str} {p1 : Pos} {body : List Stmt} {is : List Nat} {fG : PD → Sl → M Sl} (i : Nat) (hK : X.K = w.K) (hp : PassesOwn (model X.prog X.w) X.A X.env X.xe) (hc : X.calm = true) (hx : PE X (.Name nm p1) (tVar i)) (hg : PG X tg (rdG w is fG)) (hb : PSs X body (rdS w W g))
    (hs : ∀ x, foldedSetIterable (.Name nm p1) X.env x = pure x := by intro _; rfl) : PS X (.For tg (.Name nm p1) body [] pos) (rdS w W (sForK i fG g)) := PSi (ps_for hp hc (pi_list hx) hg hb hs) fun D σ H h => rd_forK hK h
end
end Vs
end
section
namespace Vs
open PySem PySem.Spec PyProof.Rows L2

variable {w : Wd} {W : WX}
/-! ## a def at one caller alone (what it may know of the caller: nothing is being shown there) -/
def RunAt (P : Program) (wd : World) (K : PySem.W.Frag) (mg : Str → Option Value) (base : Heap) (CX : CXT) (A : Around) (f : Addr) (fd : FuncData) (ps : List Str) (sp : Sp) : Prop :=
  ∀ (outer : List Env) (s : Shared) (H : Hp) (args : Args) (us : List Value) (vs : List V) (Q : VK) (E : XK), Env0 P wd K mg base A outer s H → BindsTo s fd args (ps.zip us) → Vals vs us → sp vs H Q E → codeAny (model P wd) A (.call (.ref f) args) (CR CX outer P wd H s Q E) s
theorem RunAt.of {P : Program} {wd : World} {K : PySem.W.Frag} {mg : Str → Option Value} {base : Heap} {CX : CXT} {A : Around} {k : Nat} {f : Addr} {fd : FuncData} {x qual : Str} {st : Stmt} {N ps : List Str} {sp : Sp} (F : FunD K x qual (defArgs st) (defBody st) (defScope st) [] [] f fd)
    (S : FnScope N ps (defScope st)) (hr : Room (k + 1) A) (hl : ∀ {vs H Q E}, sp vs H Q E → vs.length = ps.length)
    (body : ∀ (cdv : Value) (outer : List Env) (s : Shared) (H : Hp) (vs : List V) (Q : VK) (E : XK), sp vs H Q E →
      ∃ t, PSs (cxOf CX P wd K mg base N qual (defScope st) f cdv A outer s H E) (defBody st) t ∧ t { nx := fun _ H' => Q .non H', rt := Q } (start N vs) H) : RunAt P wd K mg base CX A f fd ps sp := by
  intro outer s H args us vs Q E en hb rv hs
  obtain ⟨oc, od, dV, kV, doc, pm, an, cdv, ct, osl, e, lk, hcd, _, _⟩ := F.ex
  subst e
  have old : ∀ b o, base.get? b = some o → s.heap.get? b = some o := fun b o z => (en.bs b o z).1
  have kin := en.mod.kin.keeps old
  have nl := en.mod.nolimit.keeps old
  have loc : ∀ y ∈ ps.zip us, (defScope st).names.lookup y.1 = some .local ∨ ((defScope st).names.lookup y.1 = some .cell ∧ ((cellsFrom (s.heap.objs.size + 1) (defScope st).names []).lookup y.1).isSome = true) := by
    rintro ⟨n, v⟩ hy
    refine (S.par n (List.of_mem_zip hy).1).imp id fun q => ⟨q, PySem.W.cellsFrom_some _ _ _ (.inl q)⟩
  apply codeAny_call_function hr.depth (kin _ _ lk) rfl S.co S.gen rfl (PySem.W.codeRec_of kin hcd)
  apply hb
  apply wpAny_newFunctionEnv_cells S.kind loc
  intro env he s1 ic
  subst he
  refine ⟨nl.keeps ic.toInCall.keep, codeAny_func ?_⟩
  obtain ⟨t, pt, qt⟩ := body cdv outer s H vs Q E hs
  have iv := inv_start (CX := CX) (E := E) S hr.hd en (hl hs) rv ic
  refine wpAny_mono (pt.run [] s1 (start N vs) H _ iv qt) ?_ fun _ _ z => z
  intro fl s' z
  cases fl with
  | next =>
    obtain ⟨σ', H', J, q⟩ := z
    exact ⟨.non, H', J.os, J.bare, J.base, J.hok, rfl, q⟩
  | ret u =>
    obtain ⟨v, σ', H', J, r, q⟩ := z
    exact ⟨v, H', J.os, J.bare, J.base, J.hok, r, q⟩
  | brk =>
    obtain ⟨_, _, _, q⟩ := z
    cases q
  | cont =>
    obtain ⟨_, _, _, q⟩ := z
    cases q
/-- a def of the layer at one caller -/
theorem run_okM {P : Program} {wd : World} {base : Heap} {A : Around} {x qual : Str} {st : Stmt} {f : Addr} {fd : FuncData} {N ps : List Str} {k n : Nat} {g : Sl → M Oc} (F : FunD w.K x qual (defArgs st) (defBody st) (defScope st) [] [] f fd) (S : FnScope N ps (defScope st)) (hn : ps.length = n) (hA : Room (k + 1) A)
    (body : ∀ (cdv : Value) (outer : List Env) (s : Shared) (H : Hp) (E : XK), PSs (cxOf (L2.CX P wd) P wd w.K w.mg base N qual (defScope st) f cdv A outer s H E) (defBody st) (rdS w (WD E) g)) : RunAt P wd w.K w.mg base (L2.CX P wd) A f fd ps (spM w n (runM N.length g)) := by
  refine RunAt.of F S hA (fun h => h.1.trans hn.symm) fun cdv outer s H vs Q E h => ⟨_, body cdv outer s H E, ?_⟩
  obtain ⟨hl, B, rs, sB, rr, ho, h⟩ := h
  refine ⟨H, B, startS N.length rs, B, Grow.refl sB, Sim.start sB rr ho, ?_⟩
  unfold runM at h
  cases e : g (startS N.length rs) with
  | error er =>
    rw [e] at h
    intro σ'
    have h : PostX w (fun c d _ H' => E c d H') [] H B er := h
    cases er with
    | stuck => exact h
    | exc z i => cases i <;> exact h
  | ok o =>
    rw [e] at h
    cases o with
    | nx env => exact fun σ' H' G' gg _ _ => h .non H' G' gg .non (Fr.no rfl)
    | ret r => exact h
    | rs r env => exact fun σ' v H' G' gg _ _ rr fr => h v H' G' gg rr fr
    | bk env => exact h.elim
    | ct env => exact h.elim
theorem RunAt.cx {P : Program} {wd : World} {K : PySem.W.Frag} {mg : Str → Option Value} {base : Heap} {A : Around} {f : Addr} {fd : FuncData} {ps : List Str} {sp : Sp} (F : RunAt P wd K mg base (L2.CX P wd) A f fd ps sp) : RunAt P wd K mg base CXE A f fd ps sp :=
  fun outer s H args us vs Q E he hb hv hs => codeAny_mono (F outer s H args us vs Q E he hb hv hs) fun r s' q => by
    cases r with
    | error e => exact ⟨P, wd, q⟩
    | ok fl => cases fl <;> exact q
/-! ### the law's call -/
/-- the script's list, tracked or one of the module's own -/
theorem script_in {P : Program} {wd : World} {K : PySem.W.Frag} {s : Shared} {a : Addr} {vs : List Value} {ns : List Int} (KX : K.In s.heap) (ha : s.heap.get? a = some { cls := .type "list", data := .seq vs.toArray }) (hi : IntsAre vs ns) (hl : ns.length ≤ sizeLine) :
    ∃ H : Hp, Only H ∧ SqL K H a (ns.map V.int) ∧ HOk P wd H s.heap ∧ (∀ b, b ≠ a → H b = none) ∧ (K.lookup a ≠ none → H a = none) := by
  have rv := vals_ints hi
  have ln := hi.length
  cases hk : K.lookup a with
  | some o =>
    have e := (KX a o hk).symm.trans ha
    cases e
    exact ⟨fun _ => none, fun _ => .inl rfl, .inr ⟨_, vs.toArray, _, hk, rfl, rfl, rfl, by rw [List.size_toArray, ln]; exact hl, by simpa using rv⟩, fun b u z => (by cases z), fun _ _ => rfl, fun _ => rfl⟩
  | none =>
    have at_ : ∀ b, (if b = a then some (HO.frz { cls := .type "list", data := .seq vs.toArray } (.lst (ns.map V.int))) else none : Option HO) ≠ none → b = a := fun b h => by
      by_cases q : b = a
      · exact q
      · rw [if_neg q] at h; exact absurd rfl h
    refine ⟨fun b => if b = a then some (.frz { cls := .type "list", data := .seq vs.toArray } (.lst (ns.map V.int))) else none, fun b => ?_, .inl (.inr ⟨_, if_pos rfl⟩), fun b u z => ?_, fun b q => if_neg q, fun q => absurd rfl q⟩
    · by_cases q : b = a
      · right; exact ⟨_, _, if_pos q⟩
      · left; exact if_neg q
    · have q := at_ b (fun n => by have z' := n.symm.trans z; cases z')
      subst q
      have z' := (if_pos rfl).symm.trans z
      cases z'
      exact ⟨ha, by rw [List.length_map]; exact hl, vs, _, rv, ha⟩
theorem law_at {P : Program} {wd : World} {K : PySem.W.Frag} {mg mb : Str → Option Value} {CX : CXT} {k : Nat} {fa a : Addr} {fd : FuncData} {x : Str} {sp : Sp} {s : Shared} {vs : List Value} {ns : List Int}
    (KX : K.In s.heap) (n1 : s.heap.Ns mainGlobals mg) (n2 : s.heap.Ns builtinsNs mb) (boot : ∀ x : Str, x ≠ "__name__" → mb x = bootBuiltins x) (nl : s.heap.NoLimit) (gs : s.gens = #[])
    (ha : s.heap.get? a = some { cls := .type "list", data := .seq vs.toArray }) (hi : IntsAre vs ns) (hl : ns.length ≤ sizeLine)
    (F : ∀ base : Heap, K.In base → base.Ns mainGlobals mg → RunAt P wd K mg base CX callerA fa fd [x] sp) (hbind : ∀ (s : Shared) (u : Value), BindsTo s fd ⟨[u], []⟩ [(x, u)])
    (hsp : ∀ H : Hp, SqL K H a (ns.map V.int) → sp [.ref a] H (fun v _ => v = .bl true) fun _ _ _ => False) (hCX : ∀ H e s', CX [] H s (fun _ _ _ => False) e s' → False) :
    codeAny (model P wd) callerA (.call (.ref fa) ⟨[.ref a], []⟩) (fun r s' => r = .ok (.ret (.bool true)) ∧ OldK s.heap s'.heap ∧ s'.os = s.os ∧ AllBare s'.gens) s := by
  obtain ⟨H, hO, hS, hok, far, own⟩ := script_in (P := P) (wd := wd) KX ha hi hl
  -- what stays where the script is hidden
  have stay : ∀ {b o}, s.heap.get? b = some o → b ≠ a → (hidT s.heap H).get? b = some o := fun h n => hidT_get h (far _ n)
  have dic : ∀ {b o es ep}, s.heap.get? b = some o → o.data = .dict es ep → b ≠ a := by
    rintro b o es ep h d rfl
    have := ha.symm.trans h
    cases this
    cases d
  have nsp : ∀ {b m}, s.heap.Ns b m → (hidT s.heap H).Ns b m := by
    rintro b m ⟨o, es, ep, h, d, r⟩
    exact ⟨o, es, ep, stay h (dic h d), d, r⟩
  have kin : K.In (hidT s.heap H) := fun b o h => by
    by_cases q : b = a
    · subst q
      exact hidT_get (KX b o h) (own (by rw [h]; exact fun z => by cases z))
    · exact stay (KX b o h) q
  have md : Mod K mg (hidT s.heap H) := by
    obtain ⟨mc, c1, c2⟩ := nl
    exact ⟨kin, nsp n1, ⟨mb, nsp n2, boot⟩, ⟨mc, nsp c1, c2⟩⟩
  have en : Env0 P wd K mg (hidT s.heap H) callerA [] s H := by
    refine ⟨rfl, md, fun b o h => of_hidT h, Nat.le_of_eq (hidT_size _ _), trivial, fun b hb => ?_, hok, .of_eq gs⟩
    exact absurd (show b ∈ ([] : List Addr) from hb) List.not_mem_nil
  refine codeAny_mono (F _ kin (nsp n1) [] s H ⟨[.ref a], []⟩ [.ref a] [.ref a] _ _ en (hbind s (.ref a)) (.cons rfl .nil) (hsp H hS)) ?_
  rintro (e | fl) s' h
  · exact (hCX H e s' h).elim
  · cases fl with
    | ret u =>
      obtain ⟨v, H', os, bare, un, hok', rv, q⟩ := h
      have q : v = .bl true := q
      subst q
      have rv : u = Value.bool true := rv
      subst rv
      refine ⟨rfl, OldK.of_keep fun b o hb => ?_, os, bare⟩
      rcases hO b with z | ⟨ob, xs, z⟩
      · exact un.keep b o hb z (fun m => absurd (show b ∈ ([] : List Addr) from m) List.not_mem_nil) (by simp)
      · have z2 := (hok' b _ (un.frzs b ob _ z)).1
        have e1 := hb.symm.trans (hok b _ z).1
        cases e1
        exact z2
    | next => exact False.elim h
    | brk => exact False.elim h
    | cont => exact False.elim h
theorem walk_at {l : PySem.W.OpenLaw} {n : Nat} {q : Program} {loose : List Str} {XP : (Str → Option Value) → Heap → Prop} {YP : World → Heap → Prop} {d : DefRec} {CX : CXT} {x : Str}
    (hn : l.most = some n) (hz : n ≤ sizeLine) (hd : d.params.defaults = [])
    (F : ∀ (wd : World) (mg : Str → Option Value) (fa : Addr) (h : Heap), YP wd h → h.Ns mainGlobals mg → mg d.name = some (.ref fa) → ∃ (K : PySem.W.Frag) (fd : FuncData) (sp : Sp), K.In h ∧ (∀ (s : Shared) (u : Value), BindsTo s fd ⟨[u], []⟩ [(x, u)]) ∧
      (∀ (H : Hp) (a : Addr) (ns : List Int), ns.length ≤ n → SqL K H a (ns.map V.int) → sp [.ref a] H (fun v _ => v = .bl true) fun _ _ _ => False) ∧ ∀ base : Heap, K.In base → base.Ns mainGlobals mg → RunAt l.prog wd K mg base CX callerA fa fd [x] sp)
    (hCX : ∀ (H : Hp) (s : Shared) (e : Value) (s' : Shared), CX [] H s (fun _ _ _ => False) e s' → False) : PySem.W.WalkO q loose XP YP l.row.toRowW d [] (fun f vs => PySem.call f vs) := by
  apply Att.attach_call hn hd
  intro wd s₀ s₁ mg mb fa o pm cd doc a vs ns G Y ho hdat hcd hmg hobj hints hlen hgens
  obtain ⟨K, fd, sp, KX, hb, hsp, hF⟩ := F wd mg fa _ Y G.T.g hmg
  exact law_at (k := 0) KX G.T.g G.T.b G.T.builtins G.T.nolimit hgens hobj hints (Nat.le_trans hlen hz) hF hb (fun H hS => hsp H a ns hlen hS) fun H e s' => hCX H s₁ e s'
end Vs
end
section
namespace Vs
open PySem PySem.Spec PyProof.Rows L2

variable {w : Wd} {W : WX}
/-! ## repr of three truths in a list, where nothing is being shown -/
def rRep3 (K : PySem.W.Frag) : List V → Hp → VK → Prop := fun xs H Q => ∃ p a b c, xs = [.ref p] ∧ SqL K H p ([a, b, c].map V.bl) ∧ Q (.str (PyData.list ([a, b, c].map PyData.bool)).shown) H
theorem DpAll.bls {K : PySem.W.Frag} {H : Hp} : ∀ bs : List Bool, DpAll K H (bs.map V.bl) (bs.map PyData.bool)
  | [] => .nil
  | b :: bs => .cons (.bl b) (DpAll.bls bs)
theorem call_rep3 {X : Cx} (hg : X.A.guards = some []) (hu : X.A.units + 64 < cLine) : CallR X (.builtin "repr") (rRep3 X.K) := by
  intro pins s σ H xs us Q I r h
  obtain ⟨p, a, b, c, rfl, hq, q⟩ := h
  obtain ⟨u, rfl, t⟩ := vals1 r
  cases t
  obtain ⟨as, rd⟩ := Dp.reads I (.list ([a, b, c].map PyData.bool)) (.ref p) (.ref p) (.lst hq (DpAll.bls _)) rfl
  have e1 : (PyData.list ([a, b, c].map PyData.bool)).showable = true := by cases a <;> cases b <;> cases c <;> rfl
  have e2 : (PyData.list ([a, b, c].map PyData.bool)).hasDict = false := by cases a <;> cases b <;> cases c <;> rfl
  have e3 : (PyData.list ([a, b, c].map PyData.bool)).depth ≤ 2 := by cases a <;> cases b <;> cases c <;> decide
  have e4 : (PyData.list ([a, b, c].map PyData.bool)).shown.length ≤ sizeLine := by cases a <;> cases b <;> cases c <;> decide +kernel
  exact PySem.repr_of_reads' rd e1 (PyData.noDict_hsm e2) hg (by omega) (fun _ _ z => z) (fun h' v tk hk => ⟨.str _, H, I.kept hk, ⟨v, rfl⟩, q⟩) e4
def oRep3 : R → M R := fun r => match r.sq?.bind bools? with
  | some [a, b, c] => .ok (.d (.str (PyData.list ([a, b, c].map PyData.bool)).shown))
  | _ => .error .stuck
theorem oRep3_tame (r : R) (x : Str) (i : Option Int) : oRep3 r ≠ .error (.exc x i) := fun e => by
  unfold oRep3 at e
  split at e <;> cases e
theorem rep3S {K : PySem.W.Frag} (hK : K = w.K) : CallS w (rRep3 K) (one1 oRep3) := by
  subst hK
  refine oneS fun H G v y Q s rr h => ?_
  unfold oRep3 at h
  split at h
  · rename_i a b c e
    rw [Option.bind_eq_some_iff] at e
    obtain ⟨xs, e1, e2⟩ := e
    rw [bools_eq e2] at e1
    obtain ⟨p, vs, rfl, hq, hr⟩ := rr.sq s e1
    rw [RpL.bls hr] at hq
    exact ⟨p, a, b, c, rfl, hq, h.done s (.str _) (Fr.no rfl)⟩
  · exact h.elim
end Vs
end
section
namespace Vs
open PySem PySem.Spec PyProof.Rows L2

variable {w : Wd} {W : WX}
/-! ## texts -/
def strs? : List PD → Option (List Str)
  | [] => some []
  | .str i :: r => (strs? r).map (i :: ·)
  | _ :: _ => none
theorem strs_eq : ∀ {xs : List PD} {ns : List Str}, strs? xs = some ns → xs = ns.map PyData.str
  | [], ns, h => by cases h; rfl
  | x :: r, ns, h => by
    cases x with
    | str i =>
      simp only [strs?, Option.map_eq_some_iff] at h
      obtain ⟨ms, h1, rfl⟩ := h
      rw [strs_eq h1]; rfl
    | _ => simp [strs?] at h
theorem strs_of (ns : List Str) : strs? (ns.map PyData.str) = some ns := by
  induction ns with
  | nil => rfl
  | cons n ns ih => simp [strs?, ih]
theorem RpL.strs {G : Hp} : ∀ {ns : List Str} {vs : List V}, RpL G vs (ns.map PyData.str) → vs = ns.map V.str
  | [], _, h => by cases h; rfl
  | n :: ns, _, h => by
    cases h with
    | cons h1 h2 =>
      cases h1
      rw [RpL.strs h2]; rfl
theorem RpL.ofStrs {G : Hp} : ∀ ns : List Str, RpL G (ns.map V.str) (ns.map PyData.str)
  | [] => .nil
  | n :: ns => .cons (.str n) (RpL.ofStrs ns)
section
variable {X : Cx} {a b c e o : Expr} {es : List Expr} {pos p : Pos} {fa fb fe : Sl → M R}
/-! ### methods of a text with one thing -/
def eM1 (op : Op) (fo fe : Sl → M R) : Sl → M R := fun env => (fo env).bind fun x => match x with
  | .d (.str z) => (fe env).bind fun y => op (.d (.str z)) y
  | _ => .error .stuck
/-- the kit's rule of the method does op -/
def MthS (w : Wd) (r : V → List V → Hp → VK → Prop) (op : Op) : Prop := ∀ (H G : Hp) (z : Str) (v2 : V) (r2 : R) (Q : VK), Same G H → Rr w H G v2 r2 → PostO w H G (op (.d (.str z)) r2) Q → r (.str z) [v2] H Q
theorem rd_m1 {r : V → List V → Hp → VK → Prop} {op : Op} (ok : w.Ok) (hs : MthS w r op) (ht : Tame op) (σ : L2.St) (H : Hp) (Q : VK) (h : rdE w W (eM1 op fa fb) σ H Q) : tM1 r (rdE w W fa) (rdE w W fb) σ H Q := by
  obtain ⟨H0, B, env, G, g, x, h⟩ := h
  refine rdE_bind ok g x h fun r1 v1 H1 G1 g1 rr1 _ g01 x1 h1 => ?_
  cases r1 with
  | d y =>
    cases y with
    | str z =>
      cases rr1
      refine ⟨⟨z, rfl⟩, ?_⟩
      refine rdE_bind ok g01 x1 h1 fun r2 v2 H2 G2 g2 rr2 _ g02 x2 h2 => ?_
      exact hs H2 G2 z v2 r2 Q g2.s rr2 (h2.o (ht _ _))
    | _ => exact h1.elim
  | _ => exact h1.elim
def oSplit : Op := fun a b => match a, b with
  | .d (.str x), .d (.str y) => if (y.length == 0) = false ∧ x.length ≤ 90000 then .ok (.l true ((Txt.split x y).map PyData.str)) else .error .stuck
  | _, _ => .error .stuck
theorem oSplit_tame : Tame oSplit := fun a b x i h => by
  unfold oSplit at h
  split at h
  · split at h <;> cases h
  · cases h
theorem splitS : MthS w (fun x xs H Q => ∃ a b, x = .str a ∧ xs = [.str b] ∧ (b.length == 0) = false ∧ a.length + 2 ≤ sizeLine ∧ rNewStrs (Txt.split a b) H Q) oSplit := by
  intro H G z v2 r2 Q s rr h
  cases r2 with
  | d y =>
    cases y with
    | str y =>
      cases rr
      have h : PostO w H G (if (y.length == 0) = false ∧ z.length ≤ 90000 then .ok (.l true ((Txt.split z y).map PyData.str)) else .error .stuck) Q := h
      split at h
      · rename_i c
        exact ⟨z, y, rfl, rfl, c.1, Nat.le_trans (Nat.add_le_add_right c.2 2) (by decide), h.mk s (RpL.ofStrs _)⟩
      · exact h.elim
    | _ => exact h.elim
  | _ => exact h.elim
theorem xe_split {apos : Pos} (ok : w.Ok) (ha : PE X a (rdE w W fa)) (he : PE X e (rdE w W fe)) (hs : starEach [e] X.env = [(false, eval e X.env)] := by rfl) (hb : attributeBase a "split" X.env (eval a X.env) = eval a X.env := by rfl) (hl : (apos.endLine == pos.line) = true := by rfl) :
    PE X (.Call (.Attribute a "split" apos) [e] [] pos) (rdE w W (eM1 oSplit fa fe)) := PEi (pe_split ha he hs hb hl) (rd_m1 ok splitS oSplit_tame)
def oJoin : Op := fun a b => match a, b.sq?.bind strs? with
  | .d (.str x), some ys => if (ys.map (·.length)).sum + ys.length * x.length ≤ 90000 then .ok (.d (.str (Txt.join x ys))) else .error .stuck
  | _, _ => .error .stuck
theorem oJoin_tame : Tame oJoin := fun a b x i h => by
  unfold oJoin at h
  split at h
  · split at h <;> cases h
  · cases h
theorem joinS {K : PySem.W.Frag} (hK : K = w.K) : MthS w (fun x xs H Q => ∃ a p, ∃ ys : List Str, x = .str a ∧ xs = [.ref p] ∧ (SqL K H p (ys.map V.str) ∨ SqT K H p (ys.map V.str)) ∧ (ys.map (·.length)).sum + ys.length * a.length ≤ 16777216 ∧ Q (.str (Txt.join a ys)) H) oJoin := by
  subst hK
  intro H G z v2 r2 Q s rr h
  unfold oJoin at h
  split at h
  · rename_i x ys e1 e2
    cases e1
    split at h
    · rename_i c
      rw [Option.bind_eq_some_iff] at e2
      obtain ⟨xs, e3, e4⟩ := e2
      rw [strs_eq e4] at e3
      obtain ⟨p, vs, rfl, hq, hr⟩ := rr.sq s e3
      rw [RpL.strs hr] at hq
      exact ⟨z, p, ys, rfl, rfl, .inl hq, Nat.le_trans c (by decide), h.done s (.str _) (Fr.no rfl)⟩
    · exact h.elim
  · exact h.elim
theorem xe_join {apos : Pos} (ok : w.Ok) (hK : X.K = w.K) (ha : PE X a (rdE w W fa)) (he : PE X e (rdE w W fe)) (hs : starEach [e] X.env = [(false, eval e X.env)] := by rfl) (hb : attributeBase a "join" X.env (eval a X.env) = eval a X.env := by rfl) (hl : (apos.endLine == pos.line) = true := by rfl) :
    PE X (.Call (.Attribute a "join" apos) [e] [] pos) (rdE w W (eM1 oJoin fa fe)) := PEi (pe_join ha he hs hb hl) (rd_m1 ok (joinS hK) oJoin_tame)
/-! ### a text in a text -/
def oInS : Op := fun a b => match a, b with
  | .d (.str x), .d (.str y) => .ok (.d (.bool (!(Builtin.Str.occurrences y x 0 y.length 1).isEmpty)))
  | _, _ => .error .stuck
theorem oInS_tame : Tame oInS := fun a b x i h => by
  unfold oInS at h
  split at h <;> cases h
theorem inSS : OpS w (fun x y H Q => ∃ i j, x = .str i ∧ y = .str j ∧ Q (.bl (!(Builtin.Str.occurrences j i 0 j.length 1).isEmpty)) H) oInS := by
  intro H G v1 v2 r1 r2 Q s rr1 rr2 h
  unfold oInS at h
  split at h
  · cases rr1; cases rr2
    exact ⟨_, _, rfl, rfl, h.done s (.bl _) (Fr.no rfl)⟩
  · exact h.elim
theorem xe_inS (ok : w.Ok) (ha : PE X a (rdE w W fa)) (hb : PE X b (rdE w W fb)) (hm : behindInMarks .In b = false := by first | rfl | with_unfolding_all rfl) : PE X (.Compare a [.In] [b] pos) (rdE w W (eOp oInS fa fb)) := xe_cmp ok op_in_str inSS oInS_tame ha hb hm
/-! ### int of a text, too; text of an int -/
def oInt2 : R → M R := fun r => match r with
  | .d (.str z) => (match PySem.intText? z with
    | some n => if z.length ≤ 640 then .ok (.d (.int n)) else .error .stuck
    | none => .error .stuck)
  | _ => .error .stuck
theorem oInt2_tame (r : R) (x : Str) (i : Option Int) : oInt2 r ≠ .error (.exc x i) := fun e => by
  unfold oInt2 at e
  split at e
  · split at e
    · split at e <;> cases e
    · cases e
  · cases e
theorem int2S : CallS w (fun xs H Q => ∃ a n, xs = [.str a] ∧ PySem.intText? a = some n ∧ a.length ≤ 640 ∧ Q (.int n) H) (one1 oInt2) := by
  refine oneS fun H G v y Q s rr h => ?_
  unfold oInt2 at h
  split at h
  · split at h
    · rename_i n e
      split at h
      · rename_i c
        cases rr
        exact ⟨_, n, rfl, e, c, h.done s (.int _) (Fr.no rfl)⟩
      · exact h.elim
    · exact h.elim
  · exact h.elim
def oStrI : R → M R := fun r => match r with
  | .d (.int i) => if i.natAbs.log2 < 1920 then .ok (.d (.str (toString i))) else .error .stuck
  | _ => .error .stuck
theorem oStrI_tame (r : R) (x : Str) (i : Option Int) : oStrI r ≠ .error (.exc x i) := fun e => by
  unfold oStrI at e
  split at e
  · split at e <;> cases e
  · cases e
theorem strIS : CallS w (fun xs H Q => ∃ i, xs = [V.int i] ∧ i.natAbs.log2 < 1920 ∧ Q (.str (toString i)) H) (one1 oStrI) := by
  refine oneS fun H G v y Q s rr h => ?_
  unfold oStrI at h
  split at h
  · split at h
    · rename_i c
      cases rr
      exact ⟨_, rfl, c, h.done s (.str _) (Fr.no rfl)⟩
    · exact h.elim
  · exact h.elim
end
end Vs
end
section
namespace Vs
open PySem PySem.Spec PyProof.Rows L2

variable {w : Wd} {W : WX}
section
variable {X : Cx} {a b c e o l tg : Expr} {es : List Expr} {pos p : Pos} {fa fb fe fl : Sl → M R}
/-! ### the signs of a text -/
def signs (z : Str) : List PD := z.cps.toList.map fun c => .str ⟨#[c]⟩
def iS (f : Sl → M R) : Sl → M (List PD) := fun env => (f env).bind fun r => match r with
  | .d (.str z) => .ok (signs z)
  | _ => .error .stuck
theorem wk_str {G : Hp} (z : Str) : Wk w (Its z) G (signs z) := by
  have hl : (signs z).length = z.cps.size := by simp [signs]
  refine ⟨fun i H' G' s1 s2 hi => by rw [hl] at hi; exact hi, fun i H' G' s1 s2 hi => by rw [hl] at hi; exact hi, fun i H' G' v H'' s1 s2 hi y => ?_⟩
  obtain ⟨rfl, c, hc, rfl⟩ := y
  refine ⟨G', .str ⟨#[c]⟩, ?_, .str _, Grow.refl s2⟩
  have : z.cps.toList[i]? = some c := by rw [Array.getElem?_toList]; exact hc
  simp [signs, this]
theorem xi_str (hl : PE X l (rdE w W fl)) : PI X tg l (rdI w W (iS fl)) := by
  refine PIi (pi_str hl) fun σ H R h => ?_
  obtain ⟨H0, B, env, G, g, x, h⟩ := h
  refine ⟨H0, B, env, G, g, x, ?_⟩
  unfold iS at h
  cases e : fl env with
  | error er => rw [e] at h; exact PostE.err.mpr h
  | ok r =>
    rw [e] at h
    intro v H1 G1 g1 rr fr
    cases r with
    | d y =>
      cases y with
      | str z =>
        cases rr
        exact ⟨z, rfl, h _ H1 G1 g1 (wk_str z)⟩
      | _ => exact h.elim
    | _ => exact h.elim
/-! ### a text, or else -/
def eOrS (fa fb : Sl → M R) : Sl → M R := fun env => (fa env).bind fun r => match r with
  | .d (.str z) => if z.length = 0 then fb env else if z.length ≤ big then .ok (.d (.str z)) else .error .stuck
  | _ => .error .stuck
theorem xe_or1 (h : PE X a (rdE w W fa)) : PE X (.BoolOp .Or [a] pos) (rdE w W fa) := pe_one h
theorem xe_orS {rest : List Expr} (ok : w.Ok) (ha : PE X a (rdE w W fa)) (hb : PE X (.BoolOp .Or (b :: rest) pos) (rdE w W fb)) : PE X (.BoolOp .Or (a :: b :: rest) pos) (rdE w W (eOrS fa fb)) := by
  refine PEi (pe_orT ha hb) fun σ H Q h => ?_
  obtain ⟨H0, B, env, G, g, x, h⟩ := h
  refine rdE_bind ok g x h fun r1 v1 H1 G1 g1 rr1 _ g01 x1 h1 => ?_
  cases r1 with
  | d y =>
    cases y with
    | str z =>
      cases rr1
      have h1 : PostE w W σ H1 G1 (if z.length = 0 then fb env else if z.length ≤ big then .ok (.d (.str z)) else .error .stuck) Q := h1
      by_cases q : z.length = 0
      · rw [if_pos q] at h1
        exact ⟨false, by simp [TruV, q], ⟨H0, B, env, G1, g01, x1, h1⟩⟩
      · rw [if_neg q] at h1
        split at h1
        · rename_i hz
          exact ⟨true, ⟨big_le hz, by simp [q]⟩, h1.done g1.s (.str z) (Fr.no rfl)⟩
        · exact h1.elim
    | _ => exact h1.elim
  | _ => exact h1.elim
end
end Vs
end
section
namespace Vs
open PySem PySem.Spec PyProof.Rows L2

variable {w : Wd} {W : WX}
section
variable {X : Cx} {a b c e i : Expr} {es : List Expr} {pos p lp : Pos} {fa fb fe fi : Sl → M R} {fs : Sl → M (List R)}
theorem PostE.up {σ : L2.St} {H G H' G' : Hp} {m : M R} {Q : VK} (g : Grow H G H' G') (h : PostE w W σ H G m Q) : PostE w W σ H' G' m Q := by
  cases m with
  | error er => exact PostE.err.mpr (PostX.grow g (PostE.err.mp h))
  | ok r => exact fun v H2 G2 g2 rr fr => h v H2 G2 (g.trans g2) rr (fr.mono g.h)
/-! ### one of some things that are written down there: [a, b, ..][i] -/
def eQ : Sl → M R := fun _ => .ok .q
theorem xe_q : PE X (.Dict [] [] pos) (rdE w W eQ) := PEi pe_dnewK fun σ H Q ⟨_, _, _, G, g, _, h⟩ p hp => h (.ref p) _ _ (Grow.lay g.s hp) ⟨p, rfl, upd_same⟩ (Fr.no rfl)
/-- a list just made, for good -/
def goodO : R → M R := fun r => match r with
  | .l true xs => .ok (.d (.list xs))
  | .d x => .ok (.d x)
  | .q => .ok .q
  | _ => .error .stuck
def eGood (f : Sl → M R) : Sl → M R := fun env => (f env).bind goodO
theorem xe_good (he : PE X e (rdE w W fe)) : PE X e (rdE w W (eGood fe)) := by
  refine PEi he fun σ H Q h => ?_
  obtain ⟨H0, B, env, G, g, x, h⟩ := h
  refine ⟨H0, B, env, G, g, x, ?_⟩
  unfold eGood at h
  cases e1 : fe env with
  | error er => rw [e1] at h; exact PostE.err.mpr (PostE.err.mp h)
  | ok r =>
    rw [e1] at h
    intro v H1 G1 g1 rr fr
    have h : PostE w W σ H G (goodO r) Q := h
    unfold goodO at h
    split at h
    · obtain ⟨p, vs, rfl, n, h1, h2⟩ := rr
      exact h (.ref p) H1 _ (g1.keep (fr rfl p rfl) h1 n) (Rp.lst upd_same (RpL.mono (Same.new n) _ _ h2)) (Fr.no rfl)
    · exact h v H1 G1 g1 rr (Fr.no rfl)
    · exact h v H1 G1 g1 rr (Fr.no rfl)
    · exact h.elim
def pickO (rs : List R) (k : Int) : M R := match atI rs k with
  | some (.d x) => .ok (.d x)
  | some .q => .ok .q
  | _ => .error .stuck
def ePick (fs : Sl → M (List R)) (fi : Sl → M R) : Sl → M R := fun env => (fs env).bind fun rs => if rs.length ≤ 1000 then (fi env).bind fun k => (ti k).bind fun k => pickO rs k else .error .stuck
theorem atI_R {H G : Hp} {vs : List V} {rs : List R} {k : Int} {r : R} (h : RrL w H G vs rs) (e : atI rs k = some r) : ∃ v, atI vs k = some v ∧ Rr w H G v r := by
  unfold atI at e ⊢
  rw [h.length]
  cases q : ixN rs.length k with
  | none => rw [q] at e; cases e
  | some j => rw [q] at e; exact h.at_ e
theorem xe_pick (ok : w.Ok) (ha : PA X es (rdA w W fs)) (hi : PE X i (rdE w W fi)) (hs : PlainIx i := by exact fun _ _ => rfl) : PE X (.Subscript (.List es lp) i pos) (rdE w W (ePick fs fi)) := by
  refine PEi (pe_ix ix_seq (pe_lst ha) hi hs) fun σ H Q h => ?_
  obtain ⟨H0, B, env, G, g, x, h⟩ := h
  refine rdA_bind ok g x h fun rs vs H1 G1 g1 rr fr g01 x1 h1 => ?_
  by_cases hz : rs.length ≤ 1000
  · rw [if_pos hz] at h1
    refine ⟨by rw [rr.length]; exact Nat.le_trans hz (by decide), fun p hp => ?_⟩
    have g2 : Grow H1 G1 (upd H1 p (.lst vs)) G1 := Grow.own g1.s hp
    have x2 := x1.grow ok g2
    have gg := g1.trans g2
    have h2 := PostE.up gg h1
    refine rdE_bind ok (g01.trans g2) x2 h2 fun rk vk H3 G3 g3 rrk _ g03 x3 h3 => ?_
    obtain ⟨k, rfl, rfl, h3⟩ := ti_ok rrk h3
    have h3 : PostE w W σ H3 G3 (pickO rs k) Q := h3
    unfold pickO at h3
    have hl : H3 p = some (.lst vs) := g3.h _ _ upd_same
    have g13 := g2.trans g3
    split at h3
    · rename_i y e
      obtain ⟨v, hv, rv⟩ := atI_R rr e
      exact .inl ⟨p, vs, k, v, rfl, rfl, SqL.of hl, hv, h3.done g3.s (Rr.mono ok g13 rv) (Fr.no rfl)⟩
    · rename_i e
      obtain ⟨v, hv, rv⟩ := atI_R rr e
      exact .inl ⟨p, vs, k, v, rfl, rfl, SqL.of hl, hv, h3.done g3.s (Rr.mono ok g13 rv) (Fr.no rfl)⟩
    · exact h3.elim
  · rw [if_neg hz] at h1
    exact h1.elim
end
/-! ### the greatest of a list -/
def maxI : List Int → Int
  | [] => 0
  | n :: ns => ns.foldl max n
theorem foldl_max : ∀ (ns : List Int) (n : Int), n ≤ ns.foldl max n ∧ (∀ y ∈ ns, y ≤ ns.foldl max n) ∧ (ns.foldl max n = n ∨ ns.foldl max n ∈ ns)
  | [], n => ⟨Int.le_refl _, fun y hy => (by cases hy), .inl rfl⟩
  | x :: ns, n => by
    obtain ⟨a, b, c⟩ := foldl_max ns (max n x)
    have h1 : n ≤ max n x := Int.le_max_left n x
    have h2 : x ≤ max n x := Int.le_max_right n x
    refine ⟨Int.le_trans h1 a, fun y hy => ?_, ?_⟩
    · rcases List.mem_cons.mp hy with rfl | hy
      · exact Int.le_trans h2 a
      · exact b y hy
    · rcases c with c | c
      · rw [List.foldl_cons, c]
        by_cases q : n ≤ x
        · right; rw [Int.max_eq_right q]; exact List.mem_cons_self
        · left; exact Int.max_eq_left (by omega)
      · right; exact List.mem_cons_of_mem _ c
theorem maxI_mem {ns : List Int} (h : ns ≠ []) : maxI ns ∈ ns ∧ ∀ y ∈ ns, y ≤ maxI ns := by
  cases ns with
  | nil => exact absurd rfl h
  | cons n ns =>
    obtain ⟨a, b, c⟩ := foldl_max ns n
    refine ⟨?_, fun y hy => ?_⟩
    · rcases c with c | c
      · show ns.foldl max n ∈ n :: ns
        rw [c]; exact List.mem_cons_self
      · exact List.mem_cons_of_mem _ c
    · rcases List.mem_cons.mp hy with rfl | hy
      · exact a
      · exact b y hy
def oMaxL : R → M R := fun r => match r.sq?.bind ints? with
  | some (n :: ns) => .ok (.d (.int (maxI (n :: ns))))
  | _ => .error .stuck
theorem oMaxL_tame (r : R) (x : Str) (i : Option Int) : oMaxL r ≠ .error (.exc x i) := fun e => by
  unfold oMaxL at e
  split at e <;> cases e
theorem maxLS {K : PySem.W.Frag} (hK : K = w.K) : CallS w (rMax K) (one1 oMaxL) := by
  subst hK
  refine oneS fun H G v y Q s rr h => ?_
  unfold oMaxL at h
  split at h
  · rename_i n ns e
    rw [Option.bind_eq_some_iff] at e
    obtain ⟨xs, e1, e2⟩ := e
    rw [ints_eq e2] at e1
    obtain ⟨p, vs, rfl, hq, hr⟩ := rr.sq s e1
    rw [RpL.ints hr] at hq
    refine ⟨p, n :: ns, rfl, hq, by simp, fun m hm hy => ?_⟩
    obtain ⟨a, b⟩ := maxI_mem (ns := n :: ns) (by simp)
    have e3 : m = maxI (n :: ns) := Int.le_antisymm (b m hm) (hy _ a)
    rw [e3]
    exact h.done s (.int _) (Fr.no rfl)
  · exact h.elim
end Vs
end
section
namespace Vs
open PySem PySem.Spec PyProof.Rows L2
/-! ## how many ints a list has, doubles told once -/
def distN (ns : List Int) : Nat := (firstMet (fun i => ns.getD i 0) ns.length).length
def tLenD (K : PySem.W.Frag) (ta : TE) : TE := fun σ H Q => ta σ H fun x H1 => ∃ (l : Addr) (ns : List Int), x = .ref l ∧ SqL K H1 l (ns.map V.int) ∧ ns.length ≤ 4000 ∧ Q (.int (distN ns : Nat)) H1
theorem pe_lenD {X : Cx} {a : Expr} {ta : TE} {p1 p2 q1 q2 : Pos} (g1 : Gl X "len") (m1 : X.mg "len" = none) (g2 : Gl X "set") (m2 : X.mg "set" = none) (pa : PE X a ta) (calm : X.calm = true) (st : starEach [a] X.env = (false, eval a X.env) :: starEach [] X.env := by rfl) :
    PE X (.Call (.Name "len" p1) [.Call (.Name "set" p2) [a] [] q1] [] q2) (tLenD X.K ta) := by
  constructor
  intro pins s σ H Q I h
  refine Call_ (ld_blt I g1 m1 boot_len ?_)
  apply PyProof.Rows.callWith_builtin1 (PyProof.Rows.args_cons ?_ rfl) rfl rfl
  refine Call_ (ld_blt I g2 m2 boot_set ?_)
  apply PyProof.Rows.callWith_type1 (PyProof.Rows.args_cons (thn (pa.run pins s σ H _ I h) ?_) st) st rfl
  rintro v s1 ⟨x, H1, J, rx, l, ns, e, hq, hl, q⟩
  subst e
  cases rx
  apply PyProof.Rows.args_nil
  obtain ⟨its, rv, pl, hz⟩ := J.list hq
  have sz : its.toArray.size = ns.length := by rw [List.size_toArray, ← rv.length, List.length_map]
  refine call_set_list (J.ok.hd calm) pl.isList (by simpa using RZ.intsAre_vals rv) (by rw [sz]; unfold scanBound; omega) ?_
  intro h' tk so kp
  apply PyProof.Rows.args_nil
  rw [sz] at so
  obtain ⟨o, es, ep, t, ho, hex, hd, _, _, _, hf, hn⟩ := so
  have le := firstMet_length_le (fun i => ns.getD i 0) ns.length
  have J2 : Inv X pins σ H1 { s1 with heap := h', toks := tk } := J.kept fun b o z => kp b o (Heap.lt_size z) z
  exact call_len_set ho hex hd hf (by rw [hn]; omega) ⟨.int (distN ns : Nat), H1, J2.tok _, ⟨_, by rw [hn]; rfl⟩, q⟩
def oLsetD : R → M R := fun r => match r.sq?.bind ints? with
  | some ns => if ns.length ≤ 4000 then .ok (.d (.int (distN ns))) else .error .stuck
  | none => .error .stuck
variable {w : Wd} {W : WX}
theorem xe_lenSetD {X : Cx} {a : Expr} {fa : Sl → M R} {p1 p2 q1 q2 : Pos} (ok : w.Ok) (hK : X.K = w.K) (hc : X.calm = true) (hg : Gl X "len") (hm : X.mg "len" = none) (hg2 : Gl X "set") (hm2 : X.mg "set" = none) (ha : PE X a (rdE w W fa))
    (na : starEach [a] X.env = (false, eval a X.env) :: starEach [] X.env := by rfl) : PE X (.Call (.Name "len" p1) [.Call (.Name "set" p2) [a] [] q1] [] q2) (rdE w W (eUn oLsetD fa)) := by
  refine PEi (pe_lenD hg hm hg2 hm2 ha hc na) fun σ H Q h => ?_
  obtain ⟨H0, B, env, G, g, x, h⟩ := h
  refine rdE_bind ok g x h fun r v H1 G1 g1 rr _ g01 x1 h1 => ?_
  unfold oLsetD at h1
  split at h1
  · rename_i ns e1
    split at h1
    · rename_i c
      rw [Option.bind_eq_some_iff] at e1
      obtain ⟨xs, e2, e3⟩ := e1
      rw [ints_eq e3] at e2
      obtain ⟨q, vs, rfl, hq, hr⟩ := rr.sq g1.s e2
      rw [RpL.ints hr] at hq
      rw [hK]
      exact ⟨q, ns, rfl, hq, c, h1.done g1.s (.int _) (Fr.no rfl)⟩
    · exact h1.elim
  · exact h1.elim
end Vs
end
section
namespace Vs
open PySem PySem.Spec PyProof.Rows L2

variable {w : Wd} {W : WX}
/-! ## an own exception with an __init__ of its own that keeps a number -/
/-- what the class at C must be -/
def oexB (K : PySem.W.Frag) (C : Addr) : Bool := (match K.lookup C with
  | some ⟨.type "type", _, .cls c, t⟩ => (match c, t with
    | ⟨_, _, .ref D :: bm, _, _, true, _, _, _, _, false⟩, ⟨[_, _, _, _, some (.builtin n), _]⟩ => decide (D = C) && (decide (n = "ValueError.__new__") && PySem.HandSPX.refsVE bm)
    | _, _ => false)
  | _ => false) && (He.eqO (PySem.W.findIn K (.ref C) "__setattr__") (some (some (.builtin "object.__setattr__"))) && (decide (PySem.W.subIn K (.ref C) (.type "BaseException") = some true) &&
  (decide (PySem.W.typeIn K (.ref C) = some (.type "type")) && (PySem.W.keepIn K (.ref C) && (He.eqO (PySem.W.findIn K (.ref C) "at") (some none))))))
theorem oexB_ok {K : PySem.W.Frag} {C : Addr} (h : oexB K C = true) : OexC K C ∧ PySem.W.findIn K (.ref C) "at" = some none := by
  unfold oexB at h
  simp only [Bool.and_eq_true, decide_eq_true_eq] at h
  obtain ⟨h1, h2, h3, h4, h5, h6⟩ := h
  refine ⟨⟨?_, He.eqO_ok h2, h3, h4, h5⟩, He.eqO_ok h6⟩
  split at h1
  · rename_i dd c t e
    split at h1
    · rename_i nm bs D bm ns q sn sub ab col k0 k1 k2 k3 n k5
      simp only [Bool.and_eq_true, decide_eq_true_eq] at h1
      obtain ⟨rfl, rfl, h1⟩ := h1
      exact ⟨nm, q, ns, bs, bm, sn, sub, ab, col, dd, k0, k1, k2, k3, k5, e, h1⟩
    · cases h1
  · cases h1
/-- Base.__init__(self, ..) of an own base: the built-in one -/
def binB (K : PySem.W.Frag) (C : Addr) : Bool := He.eqO (PySem.W.specialIn K (.ref C) "__getattribute__") (some (some (.builtin "type.__getattribute__"))) && (PySem.W.readsIn K C (.type "type") && (match PySem.W.findCls K (.ref C) (.type "type") "__init__" with
  | some (.val (.builtin s)) => decide (s = "ValueError.__init__")
  | _ => false))
theorem binB_ok {K : PySem.W.Frag} {C : Addr} (h : binB K C = true) : PySem.W.specialIn K (.ref C) "__getattribute__" = some (some (.builtin "type.__getattribute__")) ∧ PySem.W.readsIn K C (.type "type") = true ∧ PySem.W.findCls K (.ref C) (.type "type") "__init__" = some (.val (.builtin "ValueError.__init__")) := by
  unfold binB at h
  simp only [Bool.and_eq_true] at h
  obtain ⟨h1, h2, h3⟩ := h
  refine ⟨He.eqO_ok h1, h2, ?_⟩
  split at h3
  · rename_i s e
    rw [e, of_decide_eq_true h3]
  · cases h3
section
variable {X : Cx} {o e : Expr} {es : List Expr} {to te : TE} {ta : TA} {f : Str} {p p' p1 p2 pos : Pos}
theorem pe_ownInit {b : Str} {C : Addr} {pl : Sem Bool} (hg : Gl X b) (hm : X.mg b = some (.ref C)) (hB : binB X.K C = true) (ha : PA X (e :: es) ta)
    (hdb : (b == ("__debug__" : Str)) = false := by decide)
    (hc : eval (.Call (.Attribute (.Name b p1) "__init__" p2) (e :: es) [] pos) X.env = (do let z ← eval (.Name b p1) X.env; standAt p2.atName; let (g, fs) ← holding [z] (getMethod z "__init__" pl); callWith pos g fs (backTo pos (starEach (e :: es) X.env)) (backToKw pos (keywordEach [] X.env))) := by rfl)
    (he : starEach (e :: es) X.env = (false, eval e X.env) :: starEach es X.env := by rfl) (hpl : (backTo pos (starEach es X.env)).any (·.1) = false := by rfl) :
    PE X (.Call (.Attribute (.Name b p1) "__init__" p2) (e :: es) [] pos) (tVeI X.K ta) := by
  obtain ⟨b1, b2, b3⟩ := binB_ok hB
  refine ⟨fun pins s σ H Q I h => ?_⟩
  refine PySem.W.methodCall_KW (ld_glob I hg hm (PySem.W.method_cls I.kIn b1 (PySem.W.cls_value I.kIn b2 b3 (by decide +kernel) ?_)) hdb) hc
  show wpAny _ _ (callWith pos (Value.builtin "ValueError.__init__") [] (backTo pos (starEach (e :: es) X.env)) []) _ _ _
  refine PyProof.Rows.callWith_method1 (thn (ha.run pos pins _ σ H _ (I.tok _) h) fun us s1 z => ?_) he hpl
  obtain ⟨vs, H1, I1, r1, a, C1, ws, ev, hl, T, ea, q⟩ := z
  subst ev
  cases r1 with
  | @cons _ u0 _ ur ra rw' =>
    have eu : u0 = Value.ref a := ra
    subst eu
    have hlen : ur.length ≤ sizeLine := by have := Paired.length rw'; rw [sizeLine_eq]; omega
    exact oinit_ok T I1 ea hlen fun s' J => ⟨.non, H1, J, rfl, q⟩
/-- what such an __init__ does: the number is kept in "at" -/
def spI (C : Addr) : Sp := fun vs H Q _ => ∃ a i, vs = [.ref a, .int i] ∧ H a = some (exo a C none) ∧ ∀ d, H d = none → d ≠ a → Q .non (upd (upd H d (exd d [(("at" : Str), V.int i)])) a (exo a C (some d)))
/-- Base.__init__(self, "..."); self.at = at -/
theorem spI_ok {K : PySem.W.Frag} {C : Addr} {m : Str} {vs : List V} {H : Hp} {Q : VK} {E : XK} (T : OexC K C) (hno : PySem.W.findIn K (.ref C) "at" = some none) (h : spI C vs H Q E) :
    tSeq (tDrop (tVeI K (tCons (tVar 0) (tCons (tC (.str m)) tNil)))) (tOst K "at" (tVar 0) (tVar 1)) { nx := fun _ H' => Q .non H', rt := Q } (L2.start ["self", "at"] vs) H := by
  obtain ⟨a, i, rfl, ha, hq⟩ := h
  refine ⟨.ref a, rfl, a, C, [.str m], rfl, by simp, T, ha, ?_⟩
  exact ⟨.int i, rfl, .ref a, rfl, a, C, rfl, T, hno, .inl ⟨ha, fun dx n1 n2 => hq dx n1 n2⟩⟩
end
end Vs
end
section
namespace Vs
open PySem PySem.Spec PyProof.Rows L2

variable {w : Wd} {W : WX}
/-! ## raise X(i), X's own __init__ keeping i -/
structure Xi (P : Program) (wd : World) (w : Wd) (base : Heap) (x : Str) (k : Nat) : Prop where
  ex : ∃ C fI fd, w.mg x = some (.ref C) ∧ OexC w.K C ∧ PySem.W.findIn w.K (.ref C) "__init__" = some (some (.ref fI)) ∧ PySem.W.typeIn w.K (.ref fI) = some (.type "function") ∧
    FnOk P wd w.K w.mg base (L2.CX P wd) k fI fd ["self", "at"] (spI C) ∧ Binds w.K fd ["self", "at"] []
theorem Xi.mono {P : Program} {wd : World} {base : Heap} {x : Str} {j k : Nat} (D : Xi P wd w base x j) (h : j ≤ k) : Xi P wd w base x k := by
  obtain ⟨C, fI, fd, a, b, c, d, F, e⟩ := D.ex
  exact ⟨C, fI, fd, a, b, c, d, F.mono h, e⟩
def sRaiseI (x : Str) (f : Sl → M R) : Sl → M Oc := fun env => match f env with
  | .ok (.d (.int i)) => .error (.exc x (some i))
  | .ok _ => .error .stuck
  | .error e => .error e
theorem Grow.xd {H G : Hp} {a d C : Addr} {fs gs : List (Str × V)} (s : Same G H) (ha : H a = none) (hd : H d = none) (ne : d ≠ a) :
    Grow H G (upd (del (upd (upd (upd H a (exo a C none)) d (exd d fs)) a (exo a C (some d))) a) d (.xd gs)) G := by
  have old : ∀ b, b ≠ a → b ≠ d → upd (del (upd (upd (upd H a (exo a C none)) d (exd d fs)) a (exo a C (some d))) a) d (.xd gs) b = H b := fun b h1 h2 => by
    rw [upd_ne h2, del_ne h1, upd_ne h1, upd_ne h2, upd_ne h1]
  have up : Same H (upd (del (upd (upd (upd H a (exo a C none)) d (exd d fs)) a (exo a C (some d))) a) d (.xd gs)) := fun b o e => by
    rw [old b (ne_of_none e ha) (ne_of_none e hd)]
    exact e
  exact ⟨up, Same.refl G, s.trans up, fun _ _ _ n _ => n⟩
section
variable {X : Cx} {e : Expr} {fe : Sl → M R} {p p3 pos : Pos}
theorem xs_raiseI {x : Str} {k : Nat} (ok : w.Ok) (hK : X.K = w.K) (hM : X.mg = w.mg) (hc : X.calm = true) (tk : Takes X W) (D : Xi X.prog X.w w X.base x k) (hr : Room (k + 1) X.A) (hg : Gl X x) (he : PE X e (rdE w W fe)) (hdb : (x == ("__debug__" : Str)) = false := by decide)
    (hs : starEach [e] X.env = (false, eval e X.env) :: starEach [] X.env := by rfl) (hpl : (backTo pos (starEach [] X.env)).any (·.1) = false := by rfl) (hpl2 : (backTo p3 (starEach [] X.env)).any (·.1) = false := by rfl) :
    PS X (.Raise (some (.Call (.Name x p) [e] [] p3)) none pos) (rdS w W (sRaiseI x fe)) := by
  obtain ⟨C, fI, fd, h1, T, iC, tI, F, hb⟩ := D.ex
  have h1' := h1
  rw [← hM] at h1' F
  rw [← hK] at T iC tI F hb
  refine PSi (ps_raise hc tk (pmk_oex (dvs := []) (ds := []) T iC tI F hr hb .nil passL hg h1' (pa_cons he pa_nil hs) hdb hs hpl2)) fun D σ H h => ?_
  obtain ⟨H0, B, env, G, g, x0, h⟩ := h
  refine ⟨H0, B, env, G, g, x0, ?_⟩
  unfold sRaiseI at h
  cases q : fe env with
  | error er =>
    rw [q] at h
    have h : ∀ σ, PostX w W σ H0 B er := h
    exact PostE.err.mpr ((h σ).grow g)
  | ok r =>
    rw [q] at h
    cases r with
    | d y =>
      cases y with
      | int i =>
        have h : ∀ σ, PostX w W σ H0 B (.exc x (some i)) := h
        intro v H1 G1 g1 rr fr
        cases rr
        refine ⟨by simp, fun a ha => ⟨a, i, rfl, upd_same, fun d hd ne => ⟨rfl, d, [(("at" : Str), V.int i)], upd_same, by rw [upd_ne ne]; exact upd_same, ?_, ?_⟩⟩⟩
        · rwa [upd_ne ne] at hd
        · have hd' : H1 d = none := by rwa [upd_ne ne] at hd
          exact h σ C d _ G1 h1 ((g.trans g1).trans (Grow.xd g1.s ha hd' ne)) upd_same
      | _ => exact ((h [] : False)).elim
    | _ => exact ((h [] : False)).elim
end
end Vs
end
section
namespace Vs
open PySem PySem.Spec PyProof.Rows L2

variable {w : Wd} {W : WX}
/-! ## an empty dict among data; lists with such in != ; repr of a bool; the number that an exception keeps -/
section
variable {X : Cx} {a b c e o : Expr} {es : List Expr} {pos p apos : Pos} {fa fb fe : Sl → M R}
/-- {} for good -/
def eQd : Sl → M R := fun _ => .ok (.d (.dict []))
theorem xe_qd : PE X (.Dict [] [] pos) (rdE w W eQd) := PEi pe_dnewK fun σ H Q ⟨_, _, _, G, g, _, h⟩ p hp => h (.ref p) _ _ (Grow.lay g.s hp) (.emp upd_same) (Fr.no rfl)
/-! ### lists in != -/
def mvD1 (d : PD) : Bool := match d with
  | .dict [] => true
  | d => SeqAt.shaped d
def MvP (K : PySem.W.Frag) (H : Hp) (x y : V) : Prop := (∃ d, Dp K H x d ∧ Dp K H y d ∧ SeqAt.shaped d = true) ∨ ∃ a b, x = .ref a ∧ y = .ref b ∧ H a = some (.dK []) ∧ H b = some (.dK [])
def rNeM (K : PySem.W.Frag) : R2 := fun x y H Q => ∃ a b xs ys, x = .ref a ∧ y = .ref b ∧ SqL K H a xs ∧ SqL K H b ys ∧ Paired (MvP K H) xs ys ∧ Q (.bl false) H
theorem dict0 {P P' : Program} {v v' : World} {h : Heap} {a : Addr} (d : h.DictOf (mixKind P v) a []) : h.DictOf (mixKind P' v') a [] := by
  obtain ⟨o, es, ep, e1, e2, e3, _, e5, _⟩ := d
  have e : es.toList = [] := by
    generalize es.toList = l at e5
    cases e5
    rfl
  refine ⟨o, es, ep, e1, e2, e3, ?_, ?_, List.nodup_nil⟩
  · intro x hx
    rw [Array.mem_def, e] at hx
    cases hx
  · rw [e]
    exact .nil
theorem mvP_eq {pins : List (Addr × Obj)} {σ : L2.St} {H : Hp} {s : Shared} (I : Inv X pins σ H s) {A : Around} (hu : A.units + 64 < cLine) {x y : V} {u v : Value} (h : MvP X.K H x y) (rx : RelV x u) (ry : RelV y v) : SeqAt.EqAt A s u v true := by
  rcases h with ⟨d, h1, h2, sd⟩ | ⟨a, b, rfl, rfl, h1, h2⟩
  · obtain ⟨as, r1⟩ := Dp.reads I d x u h1 rx
    obtain ⟨bs, r2⟩ := Dp.reads I d y v h2 ry
    have := SeqAt.eqAt_reads d d A s u v as bs r1 r2 (SeqAt.canLay_of_shaped sd) (SeqAt.canLay_of_shaped sd) (by have := SeqAt.depth_of_shaped sd; omega)
    rwa [SeqAt.eqv_refl d (SeqAt.canLay_of_shaped sd)] at this
  · cases (show u = Value.ref a from rx)
    cases (show v = Value.ref b from ry)
    by_cases e : a = b
    · subst e
      exact SeqAt.EqAt.same _
    · intro P' v' E Q q
      obtain ⟨_, ya, va, ra, da⟩ := (show ObjOk X.prog X.w H s.heap a (.dK []) from I.hok a _ h1)
      obtain ⟨_, yb, vb, rb, db⟩ := (show ObjOk X.prog X.w H s.heap b (.dK []) from I.hok b _ h2)
      cases ra
      cases rb
      exact SeqAt.eqP_refs (prog := P') (w := v') e (fun E Q q => PySem.W.rcP_dicts (knd := mixKind P' v') (r := true) ya yb (dict0 da) (dict0 db) (by omega) (fun _ => .nil) E Q q) E Q q
theorem mv_items {pins : List (Addr × Obj)} {σ : L2.St} {H : Hp} {s : Shared} (I : Inv X pins σ H s) {A : Around} (hu : A.units + 64 < cLine) {xs ys : List V} (hp : Paired (MvP X.K H) xs ys) :
    ∀ {us vs : List Value}, Vals xs us → Vals ys vs → ∀ j (h1 : j < us.length) (h2 : j < vs.length), SeqAt.EqAt A s us[j] vs[j] true := by
  induction hp with
  | nil => intro us vs r1 _ j h1 _; cases r1; cases h1
  | cons m _ ih =>
    intro us vs r1 r2 j h1 h2
    cases r1
    cases r2
    rename_i rx1 rs1 _ _ rx2 rs2
    cases j with
    | zero => exact mvP_eq I hu m rx1 rx2
    | succ j => exact ih rs1 rs2 j (Nat.lt_of_succ_lt_succ h1) (Nat.lt_of_succ_lt_succ h2)
theorem op_neM (hu : X.A.units + 65 < cLine) : OpR X (compareOp .NotEq) (rNeM X.K) := by
  intro pins s σ H x y v u Q I rx ry h
  obtain ⟨a, b, xs, ys, rfl, rfl, ha, hb, hp, q⟩ := h
  cases (show v = Value.ref a from rx)
  cases (show u = Value.ref b from ry)
  obtain ⟨us, r1, p1, _⟩ := I.list ha
  obtain ⟨vs, r2, p2, _⟩ := I.list hb
  have sz : us.toArray.size = vs.toArray.size := by rw [List.size_toArray, List.size_toArray, ← r1.length, ← r2.length]; exact Paired.length hp
  have k := SeqAt.RcNeAt.lists (A := X.A) (e := fun _ => true) p1.isList p2.isList sz (by omega) (fun j h1 h2 => by
    have := mv_items (A := X.A.in1) I (by show X.A.units + 1 + 64 < cLine; omega) hp r1 r2 j (by simpa using h1) (by simpa using h2)
    simpa using this)
  refine k _ _ _ _ ?_
  rw [show (List.range us.toArray.size).all (fun _ => true) = true from List.all_eq_true.mpr fun _ _ => rfl]
  exact ⟨.bl false, H, I, rfl, q⟩
open Classical in
noncomputable def oNeM : Op := fun a b => match a.sq?, b.sq? with
  | some xs, some ys => if xs = ys ∧ xs.all mvD1 = true then .ok (.d (.bool false)) else .error .stuck
  | _, _ => .error .stuck
theorem oNeM_tame : Tame oNeM := fun a b x i h => by
  unfold oNeM at h
  split at h
  · split at h <;> cases h
  · cases h
theorem mvP_all {K : PySem.W.Frag} {G H : Hp} (s : Same G H) : ∀ {ds : List PD} {xs ys : List V}, ds.all mvD1 = true → RpL G xs ds → RpL G ys ds → Paired (MvP K H) xs ys
  | [], _, _, _, h1, h2 => by
    cases h1
    cases h2
    exact .nil
  | d :: ds, _, _, q, h1, h2 => by
    rw [List.all_cons, Bool.and_eq_true] at q
    cases h1 with
    | cons a1 b1 =>
      cases h2 with
      | cons a2 b2 =>
        refine .cons ?_ (mvP_all s q.2 b1 b2)
        by_cases e : d = .dict []
        · subst e
          cases a1 with
          | emp g1 =>
            cases a2 with
            | emp g2 => exact .inr ⟨_, _, rfl, rfl, s _ _ g1, s _ _ g2⟩
        · have sd : SeqAt.shaped d = true := by
            have q1 := q.1
            unfold mvD1 at q1
            split at q1
            · exact absurd rfl e
            · exact q1
          exact .inl ⟨d, Rp.dp _ _ (noD_shaped sd) (Rp.mono s _ _ a1), Rp.dp _ _ (noD_shaped sd) (Rp.mono s _ _ a2), sd⟩
theorem neMS {K : PySem.W.Frag} (hK : K = w.K) : OpS w (rNeM K) oNeM := by
  subst hK
  intro H G v1 v2 r1 r2 Q s rr1 rr2 h
  unfold oNeM at h
  split at h
  · rename_i xs ys e1 e2
    split at h
    · rename_i c
      obtain ⟨c1, c2⟩ := c
      subst c1
      obtain ⟨p1, vs1, rfl, q1, l1⟩ := rr1.sq s e1
      obtain ⟨p2, vs2, rfl, q2, l2⟩ := rr2.sq s e2
      exact ⟨p1, p2, vs1, vs2, rfl, rfl, q1, q2, mvP_all s c2 l1 l2, h.done s (.bl _) (Fr.no rfl)⟩
    · exact h.elim
  · exact h.elim
/-! ### repr of a bool, where nothing is being shown -/
def rRepB : List V → Hp → VK → Prop := fun xs H Q => ∃ b, xs = [.bl b] ∧ Q (.str (if b then "True" else "False")) H
theorem call_repB : CallR X (.builtin "repr") rRepB := by
  intro pins s σ H xs us Q I r h
  obtain ⟨b, rfl, q⟩ := h
  obtain ⟨u, rfl, t⟩ := vals1 r
  cases (show u = Value.bool b from t)
  exact PySem.P.repr_of_bool ⟨.str _, H, I.tok _, ⟨_, rfl⟩, q⟩
theorem repBS : CallS w rRepB (one1 oRepB) := by
  refine oneS fun H G v y Q s rr h => ?_
  unfold oRepB at h
  split at h
  · rename_i b
    cases rr
    exact ⟨b, rfl, h.done s (.str _) (Fr.no rfl)⟩
  · exact h.elim
/-! ### err.at -/
def eAt (z0 : Str) (names : List Str) (f : Sl → M R) : Sl → M R := fun env => (f env).bind fun r => match r with
  | .e z (some i) => if z = z0 ∧ z ∈ names then .ok (.d (.int i)) else .error .stuck
  | _ => .error .stuck
theorem xe_at {z0 : Str} {names : List Str} (ok : w.Ok) (hK : X.K = w.K) (S : Xs w names) (hno : PySem.W.findIn w.K (.ref (He.ga w.K z0)) "at" = some none) (he : PE X e (rdE w W fe)) (hb : attributeBase e "at" X.env (eval e X.env) = eval e X.env := by rfl) :
    PE X (.Attribute e "at" pos) (rdE w W (eAt z0 names fe)) := by
  refine ⟨fun pins s σ H Q I h => ?_⟩
  obtain ⟨H0, B, env, G, g, x, h⟩ := h
  have h2 : rdE w W fe σ H (fun v H1 => ∃ a d i, v = .ref a ∧ H1 a = some (ExK (.ref (He.ga w.K z0)) (some d) a) ∧ ExcC w.K (He.ga w.K z0) ∧ H1 d = some (.xd [(("at" : Str), V.int i)]) ∧ Q (.int i) H1) := by
    refine rdE_bind (k := fun r => match r with
      | .e z (some i) => if z = z0 ∧ z ∈ names then .ok (.d (.int i)) else .error .stuck
      | _ => .error .stuck) ok g x h fun r v H1 G1 g1 rr _ g01 x1 h1 => ?_
    split at h1
    · rename_i z i _
      split at h1
      · rename_i c
        obtain ⟨rfl, hz⟩ := c
        obtain ⟨p, d, rfl, hp, _, hd⟩ := exo_at S hz g1.s rr
        obtain ⟨dd, e1, e2⟩ := hd i rfl
        subst e1
        exact ⟨p, dd, i, rfl, hp, (S.all hz).1, e2, h1.done g1.s (.int i) (Fr.no rfl)⟩
      · exact h1.elim
    · exact h1.elim
  refine attr_of hb (thn (he.run pins s σ H _ I h2) fun u s1 hh => ?_)
  obtain ⟨v, H1, I1, rx, a, d, i, ev, ha, C, hd, q⟩ := hh
  subst ev
  cases (show u = Value.ref a from rx)
  rw [← hK] at C hno ha
  obtain ⟨⟨oe, vs, hget, hz, hv⟩, _, _⟩ := (show ObjOk X.prog X.w H1 s1.heap a (ExK (.ref (He.ga X.K z0)) (some d) a) from I1.hok a _ ha)
  obtain ⟨mA, hns, hr⟩ := (show ObjOk X.prog X.w H1 s1.heap d (.xd [(("at" : Str), V.int i)]) from I1.hok d _ hd)
  obtain ⟨od, ho, hl⟩ := lookIn_ns hns
  have J : PySem.W.InstAt s1.heap a oe (He.ga X.K z0) (some od) := ⟨hget, hz.1, by unfold PySem.W.notCls; rw [hv] <;> rfl, by rw [hz.2]; exact ho⟩
  obtain ⟨u, hu, ru⟩ := RelO.some_of (v := .int i) (o := mA "at") (by have := hr "at"; exact this)
  exact HandSPX.exc_get I1.kIn J C.hg C.hk C.hs (PySem.W.findObj_own C.hd hno rfl (by rw [hl, hu])) (handed_of ru) ⟨.int i, H1, I1.tok _, ru, q⟩
/-! ### a slot's own list is for good from here on, where it is one -/
def sFrzM (i : Nat) : Sl → M Oc := fun env => match env[i]? with
  | some (some (.l _ xs)) => .ok (.nx (env.set i (some (.d (.list xs)))))
  | _ => .ok (.nx env)
theorem xss_frzM {g : Sl → M Oc} (i : Nat) (ok : w.Ok) {sts : List Stmt} (h : PSs X sts (rdS w W g)) : PSs X sts (rdS w W (sSeq (sFrzM i) g)) := by
  refine ⟨fun pins s σ H D I z => ?_⟩
  obtain ⟨H0, B, env, G, gg, x, z⟩ := z
  by_cases q : ∃ b xs, env[i]? = some (some (.l b xs))
  · obtain ⟨b, xs, q⟩ := q
    refine (xss_frz i ok h).run pins s σ H D I ⟨H0, B, env, G, gg, x, ?_⟩
    unfold sSeq sFrzM at z
    unfold sSeq sFrz
    rw [q] at z ⊢
    exact z
  · refine h.run pins s σ H D I ⟨H0, B, env, G, gg, x, ?_⟩
    unfold sSeq sFrzM at z
    split at z
    · rename_i b xs e
      exact absurd ⟨b, xs, e⟩ q
    · exact z
end
/-! ### the head's hook, the interpreter's own statics told too -/
def kW (n : Nat) (g : Addr → Option Obj) : PySem.W.Frag := He.frG g (He.asD g n ++ [cStatics])
def obsW (n : Nat) (fa : List He.Fa) (fn : List He.DefD) (ex : PySem.W.Frag → Bool) (g : Addr → Option Obj) : He.AlD × Bool := (He.obsD fa fn (kW n g), ex (kW n g))
def hookW (n : Nat) (fa : List He.Fa) (fn : List He.DefD) (ex : PySem.W.Frag → Bool) : PySem.W.Hook where
  α := He.AlD × Bool
  obs := fun s => obsW n fa fn ex s.heap.get?
  val := fun _ => (He.valD fn, true)
  says := fun _ h => ∃ K : PySem.W.Frag, K.In h ∧ He.SaysD fa fn K ∧ ex K = true
  of := fun _ _ e => ⟨_, He.frG_in, congrArg Prod.fst e, congrArg Prod.snd e⟩
  keeps := fun _ _ _ ⟨K, hK, c⟩ k => ⟨K, PySem.W.Frag.In.keeps hK k, c⟩
theorem obsW_eq {n : Nat} {fa : List He.Fa} {fn : List He.DefD} {ex : PySem.W.Frag → Bool} {g : Addr → Option Obj} {s : Shared} (h : ∀ a, g a = s.heap.get? a) : obsW n fa fn ex g = (hookW n fa fn ex).obs s := by
  have e : g = s.heap.get? := funext h
  rw [e]; rfl
end Vs
end
section
namespace Vs
open PySem PySem.Spec PyProof.Rows L2
/-! ## sets of tuples of ints, up to what one table holds -/
abbrev prb (m : Nat) (h : Int) (c : Nat) : SetTable.Probe := nth m (runAt m (SetTable.bits h % (m + 1)) (SetTable.bits h)) c
theorem prb_way (m : Nat) (h : Int) (c : Nat) : (prb m h c).j = way m h c := rfl
theorem prb_on (m : Nat) (h : Int) (c q : Nat) : nth m (prb m h c) q = prb m h (c + q) := (nth_add m c _ q).symm
theorem adv_plain {m : Nat} {p : SetTable.Probe} (h : p.dummy = none) : (adv m p).dummy = none := by
  unfold adv; split <;> exact h
theorem nth_plain {m : Nat} : ∀ (n : Nat) {p : SetTable.Probe}, p.dummy = none → (nth m p n).dummy = none
  | 0, _, h => h
  | n + 1, _, h => nth_plain n (adv_plain h)
section
variable {P : Program} {w : World} {A : Around} {E : Value → Shared → Prop} {s : Shared} {a : Addr} {L : List (Addr × List Int)} {es : Array (Int × Value)} {ep : Nat} {t : SetTable}
/-- at a stands a set of the tuples of L -/
structure Bag (P : Program) (w : World) (g : Heap) (a : Addr) (L : List (Addr × List Int)) (es : Array (Int × Value)) (ep : Nat) (t : SetTable) : Prop where
  at_ : ∃ o, g.get? a = some o ∧ o.ExactSet ∧ o.data = .set es ep t
  row : es.toList = rowsOf P w L
  tb : TabOk t (L.map fun q => thash P w q.2)
  un : (L.map fun q => q.2).Nodup
  tp : ∀ q ∈ L, IsT P w g q.2 q.1
  pln : t.plain = true
  ldd : w.params.followText "set-order" = true ∨ t.led = true
  rm : L.length * 5 < t.mask * 3
theorem row_sz (h : es.toList = rowsOf P w L) : es.size = L.length := by rw [← Array.length_toList, h]; simp [rowsOf]
theorem Bag.places (b : Bag P w s.heap a L es ep t) : t.place.size = L.length := by rw [b.tb.sz, List.length_map]
theorem Bag.fits (b : Bag P w s.heap a L es ep t) : t.fits es.size = true := by
  have e1 := b.places
  have e2 := b.rm
  have e3 := row_sz b.row
  simp only [SetTable.fits, SetTable.fill, b.tb.dm, Bool.and_eq_true, beq_iff_eq, decide_eq_true_eq]
  refine ⟨e1.trans e3.symm, ?_⟩
  show t.place.size + 0 ≤ t.mask
  omega
theorem Bag.nth (b : Bag P w s.heap a L es ep t) {i : Nat} {q : Addr × List Int} (h : L[i]? = some q) : es[i]? = some (thash P w q.2, Value.ref q.1) := by
  have e : es.toList[i]? = some (thash P w q.2, Value.ref q.1) := by
    rw [b.row, rowsOf, List.getElem?_map, h]
    rfl
  rwa [Array.getElem?_toList] at e
theorem Bag.steady (b : Bag P w s.heap a L es ep t) : t.gaveWay = false := by
  simp [SetTable.gaveWay, mask_odd b.tb.mok]
/-- the way of a tuple that isn't there, from its c-th step on -/
theorem bag_from (b : Bag P w s.heap a L es ep t) {x : Addr} {k : List Int} (hx : IsT P w s.heap k x) (hu : A.units < cLine) (new : k ∉ L.map fun q => q.2) {K : Nat} (far : K < 10 * SetTable.turns t.mask)
    (stop : way t.mask (thash P w k) K ∉ t.place.toList) (full : ∀ c, c < K → way t.mask (thash P w k) c ∈ t.place.toList) {Q : SetFound → Shared → Prop} (q : Q (.free (way t.mask (thash P w k) K) false) s) :
    ∀ (fuel c : Nat) (stand : Option SetTable.Probe), stand.getD (t.probeStart (thash P w k)) = prb t.mask (thash P w k) c → c ≤ K → K - c < fuel → wpAny (model P w) A (setSearchFrom a (.ref x) (thash P w k) true fuel stand) Q E s := by
  intro fuel
  induction fuel with
  | zero => intro c stand _ _ z; omega
  | succ fuel ih =>
    intro c stand hst hc hf
    obtain ⟨o, ho, hex, hd⟩ := b.at_
    have no := nth_plain (m := t.mask) (p := runAt t.mask (SetTable.bits (thash P w k) % (t.mask + 1)) (SetTable.bits (thash P w k))) c rfl
    have spec := go_spec t b.tb.ris b.tb.dm (fun i => (es[i]?.map (·.1)).getD 0) (thash P w k) (10 * SetTable.turns t.mask) (K - c) (prb t.mask (thash P w k) c) no (by omega)
      (fun r hr => by rw [prb_on]; exact full (c + r) (by omega)) (by rw [prb_on, show c + (K - c) = K by omega]; exact stop)
    rw [setSearchFrom_succ]
    refine wpAny_bind (wpAny_setState_of ho hd b.fits ?_)
    dsimp only
    refine wp_if_neg (by rw [b.steady]; decide) ?_
    try refine wpAny_bind (wpAny_pure ?_)
    rcases spec with ⟨r, i, hr, hi, hh, _, hp⟩ | ⟨_, hp⟩
    · -- another tuple of the same hash
      rw [prb_on] at hi
      have hp2 : t.probe (fun i => (es[i]?.map (·.1)).getD 0) (thash P w k) (stand.getD (t.probeStart (thash P w k))) = some (.candidate (way t.mask (thash P w k) (c + r)) i (prb t.mask (thash P w k) (c + (r + 1)))) := by
        rw [hst, ← prb_way, ← prb_on, ← prb_on]
        exact hp
      rw [hp2]
      dsimp only
      have il : i < L.length := by
        rw [← b.places, ← Array.length_toList]
        exact (List.getElem?_eq_some_iff.mp hi).1
      have hq := List.getElem?_eq_getElem il
      have hm : L[i] ∈ L := List.getElem_mem il
      have ne : ¬ L[i].2 = k := fun z => new (List.mem_map.mpr ⟨_, hm, z⟩)
      have go : wpAny (model P w) A (searchRest a (.ref x) (thash P w k) true fuel es t (way t.mask (thash P w k) (c + r)) i (prb t.mask (thash P w k) (c + (r + 1)))) Q E s := by
        have sl : t.slot (way t.mask (thash P w k) (c + r)) = .live i := slot_live b.tb.ris hi
        unfold searchRest
        rw [b.nth hq]
        dsimp only
        refine wpAny_bind (wpAny_holding (wpAny_eqBool_tuple hu (b.tp _ hm) hx (wpAny_bind (wpAny_setState_of ho hd b.fits ?_))))
        dsimp only
        refine wp_if_neg (by simp [ne]) ?_
        try refine wpAny_bind (wpAny_pure ?_)
        rw [sameMem]
        dsimp only
        simp only [if_true, sl, b.nth hq]
        refine wpAny_bind (wpAny_isSame_ref_self (wpAny_bind (wpAny_pure ?_)))
        simp only [if_true]
        refine wp_if_neg (by simp [ne]) ?_
        exact ih (c + (r + 1)) _ rfl (by omega) (by omega)
      by_cases ld : t.led = true
      · refine wp_if_neg (by simp [ld]) ?_
        try refine wpAny_bind (wpAny_pure ?_)
        exact go
      · refine wp_if_pos (by simp [ld]) (wpAny_bind (seen_tup hx (fun y hy => ?_) ?_))
        · obtain ⟨e, he, rfl⟩ := List.mem_map.mp hy
          have he2 : e ∈ es.toList := by
            have : e ∈ es ∧ e.1 = thash P w k := by simpa using he
            simpa using this.1
          rw [b.row] at he2
          obtain ⟨q2, h2, rfl⟩ := List.mem_map.mp he2
          exact ⟨q2.2, q2.1, rfl, b.tp q2 h2⟩
        · refine wp_if_neg (by decide) ?_
          try refine wpAny_bind (wpAny_pure ?_)
          exact go
    · -- nothing stands there
      have hp2 : t.probe (fun i => (es[i]?.map (·.1)).getD 0) (thash P w k) (stand.getD (t.probeStart (thash P w k))) = some (.empty (way t.mask (thash P w k) K) none) := by
        rw [hst, ← prb_way, show K = c + (K - c) by omega, ← prb_on]
        exact hp
      rw [hp2]
      exact wpAny_pure q
theorem bag_search (b : Bag P w s.heap a L es ep t) {x : Addr} {k : List Int} (hx : IsT P w s.heap k x) (hu : A.units < cLine) (new : k ∉ L.map fun q => q.2) {Q : SetFound → Shared → Prop}
    (q : ∀ K, way t.mask (thash P w k) K ∉ t.place.toList → (∀ c, c < K → way t.mask (thash P w k) c ∈ t.place.toList) → Q (.free (way t.mask (thash P w k) K) false) s) : wpAny (model P w) A (setSearch a (.ref x) (thash P w k) true) Q E s := by
  have rm := b.rm
  obtain ⟨K, far, stop, full⟩ := b.tb.first (by rw [List.length_map]; omega) (thash P w k)
  have bd : K < 100000 := by
    have : SetTable.turns t.mask ≤ 142 := by rcases b.tb.mok with e | e | e <;> rw [e] <;> decide
    omega
  unfold setSearch
  exact bag_from b hx hu new far stop full (q K stop full) 100000 0 none rfl (Nat.zero_le _) (by omega)
end
end Vs
end
section
namespace Vs
open PySem PySem.Spec PyProof.Rows L2
section
variable {P : Program} {w : World} {A : Around} {E : Value → Shared → Prop} {s : Shared} {a : Addr} {L : List (Addr × List Int)} {es : Array (Int × Value)} {ep : Nat} {t : SetTable}
/-- laid anew in a larger table -/
theorem bag_relay {o : Obj} (ho : s.heap.get? a = some o) (hex : o.ExactSet) (hd : o.data = .set es ep t) (row : es.toList = rowsOf P w L) (pz : t.place.size = es.size) (dm : t.dummies = #[]) (fl : es.size ≤ t.mask)
    (un : (L.map fun q => q.2).Nodup) (tp : ∀ q ∈ L, IsT P w s.heap q.2 q.1) (pln : t.plain = true) (ldd : w.params.followText "set-order" = true ∨ t.led = true) {n M : Nat} (hM : SetTable.sizeAbove n - 1 = M) (ok : MaskOk M) (small : SetTable.sizeAbove n ≤ 128) (rm : L.length * 5 < M * 3) {Q : Unit → Shared → Prop}
    (q : ∀ g L2 es2 ep2 t2, Heap.SameBut a s.heap g → Bag P w g a L2 es2 ep2 t2 → L2.Perm L → Q () { s with heap := g }) : wpAny (model P w) A (setRelay a n) Q E s := by
  have sz := row_sz row
  have fits : t.fits es.size = true := by
    simp only [SetTable.fits, SetTable.fill, dm, Bool.and_eq_true, beq_iff_eq, decide_eq_true_eq]
    exact ⟨pz, by show t.place.size + 0 ≤ t.mask; omega⟩
  obtain ⟨t2, order, e1, e2, e3, e4, e5, e6, e7⟩ := relaid_ok t (hs := es.map (·.1)) (wanted := n) hM ok (by rw [Array.size_map]; omega)
  rw [Array.size_map, sz] at e2
  obtain ⟨L2, f1, f2, f3⟩ := order_rows L es order row e2
  rw [← f3] at e3
  have lz := f2.length_eq
  have sz2 : (order.filterMap (es[·]?)).size = es.size := (row_sz f1).trans (lz.trans sz.symm)
  rw [setRelay_eq]
  refine wpAny_bind (wpAny_setState_of ho hd fits ?_)
  dsimp only
  refine wp_if_neg (by rw [sizeLine_eq]; omega) ?_
  try refine wpAny_bind (wpAny_pure ?_)
  rw [e1]
  dsimp only
  refine wpAny_bind (wp_if_neg (by simp [sz2]) ?_)
  try refine wpAny_bind (wpAny_pure ?_)
  refine wpAny_pure ?_
  dsimp only
  refine wpAny_storeSet_of ho hd ?_ (by rw [sz2, sz, sizeLine_eq]; rcases ok with z | z | z <;> omega)
  have same : Heap.SameBut a s.heap (s.heap.update a (Obj.putSet (order.filterMap (es[·]?)) t2)) := Heap.SameBut.update ..
  exact q _ L2 _ (ep + 1) t2 same ⟨⟨_, store_at ho hd, ⟨hex.1, hex.2.1, hex.2.2⟩, rfl⟩, f1, e3, (f2.map _).nodup_iff.mpr un, fun z hz => isT_same (tp z (f2.mem_iff.mp hz)) ho hd same, e6.trans pln, by rw [e5]; exact ldd, by rw [lz, e4]; exact rm⟩ f2
/-- one more -/
theorem bag_add (b : Bag P w s.heap a L es ep t) {x : Addr} {k : List Int} (hx : IsT P w s.heap k x) (hu : A.units < cLine) (new : k ∉ L.map fun q => q.2) (room : L.length + 1 ≤ 76) {Q : Bool → Shared → Prop}
    (q : ∀ g L2 es2 ep2 t2, Heap.SameBut a s.heap g → Bag P w g a L2 es2 ep2 t2 → L2.Perm ((x, k) :: L) → Q true { s with heap := g }) : wpAny (model P w) A (setAddHashed a (.ref x) (thash P w k)) Q E s := by
  obtain ⟨o, ho, hex, hd⟩ := b.at_
  have sz := row_sz b.row
  have rm := b.rm
  have scan : ¬ byScan (.ref x) es = true := by simp [byScan, Value.scannable]
  unfold setAddHashed
  refine wpAny_holding ?_
  show wpAny _ _ (setAddHashedIn a (.ref x) (thash P w k) (99999 + 1)) _ _ _
  rw [setAddHashedIn_succ]
  refine wpAny_bind (wpAny_setState_of ho hd b.fits ?_)
  dsimp only
  refine wp_if_neg scan ?_
  try refine wpAny_bind (wpAny_pure ?_)
  refine wpAny_bind (bag_search b hx hu new fun K stop full => ?_)
  dsimp only
  refine wpAny_bind (wpAny_setState_of ho hd b.fits ?_)
  dsimp only
  obtain ⟨p1, p2, p3, p4, p5, p6, _, _, p9⟩ := b.tb.put stop full
  have pl1 : (t.put (way t.mask (thash P w k) K)).1.plain = true := p6.trans b.pln
  generalize t.put (way t.mask (thash P w k) K) = u at p1 p3 p4 p5 p6 p9 pl1 ⊢
  obtain ⟨u, j⟩ := u
  dsimp only at p1 p3 p4 p5 p6 p9 pl1 ⊢
  subst p1
  first
    | (refine wpAny_bind ?_; refine wp_if_pos pl1 ?_; refine hashBy_tup hx ?_)
    | refine wp_if_pos pl1 (wpAny_bind (hashBy_tup hx ?_))
  simp only [if_true]
  have r1 : (SetTable.insertAt es (SetTable.below t.place (way t.mask (thash P w k) K)) (thash P w k, Value.ref x)).toList = rowsOf P w (L.take (SetTable.below t.place (way t.mask (thash P w k) K)) ++ (x, k) :: L.drop (SetTable.below t.place (way t.mask (thash P w k) K))) := by rw [SetTable.toList_insertAt, b.row, rows_put]
  generalize SetTable.below t.place (way t.mask (thash P w k) K) = j at p2 p3 r1 ⊢
  have pm := put_perm L j (x, k)
  have hh : (L.take j ++ (x, k) :: L.drop j).map (fun q => thash P w q.2) = (L.map fun q => thash P w q.2).take j ++ thash P w k :: (L.map fun q => thash P w q.2).drop j := by simp [List.map_take, List.map_drop]
  rw [← hh] at p3
  have lz : (L.take j ++ (x, k) :: L.drop j).length = L.length + 1 := pm.length_eq
  have un : ((L.take j ++ (x, k) :: L.drop j).map fun q => q.2).Nodup := (pm.map fun q => q.2).nodup_iff.mpr (List.nodup_cons.mpr ⟨new, b.un⟩)
  have sz1 := row_sz r1
  generalize SetTable.insertAt es j (thash P w k, Value.ref x) = es1 at r1 sz1 ⊢
  generalize L.take j ++ (x, k) :: L.drop j = L1 at pm lz p3 un r1 sz1
  refine wpAny_bind (wpAny_storeSet_of ho hd ?_ (by rw [sz1, lz, sizeLine_eq]; omega))
  have same : Heap.SameBut a s.heap (s.heap.update a (Obj.putSet es1 u)) := Heap.SameBut.update ..
  have st := store_at (es' := es1) (t' := u) ho hd
  generalize s.heap.update a (Obj.putSet es1 u) = g1 at same st ⊢
  have tp : ∀ z ∈ L1, IsT P w g1 z.2 z.1 := fun z hz => by
    rcases List.mem_cons.mp (pm.mem_iff.mp hz) with rfl | hz
    · exact isT_same hx ho hd same
    · exact isT_same (b.tp z hz) ho hd same
  have ldd : w.params.followText "set-order" = true ∨ u.led = true := by rw [p5]; exact b.ldd
  have tf : u.tooFull = decide ((L.length + 1) * 5 ≥ u.mask * 3) := by
    unfold SetTable.tooFull
    rw [p9, List.length_map]
  by_cases full2 : (L.length + 1) * 5 ≥ u.mask * 3
  · have f : u.tooFull = true := by rw [tf]; exact decide_eq_true full2
    first
      | (refine wpAny_bind ?_; refine wp_if_pos (by simp [f]) ?_)
      | (refine wp_if_pos (by simp [f]) ?_; refine wpAny_bind ?_)
    rw [sz]
    have pz : u.place.size = es1.size := by rw [p3.sz, List.length_map, sz1]
    have which : (t.mask = 7 ∧ L.length = 4) ∨ (t.mask = 31 ∧ L.length = 18) := by
      rw [p4] at full2
      rcases b.tb.mok with e | e | e <;> rw [e] at full2 rm <;> first | exact .inl ⟨e, by omega⟩ | exact .inr ⟨e, by omega⟩ | omega
    have lay : ∀ M, SetTable.sizeAbove (SetTable.grown (L.length + 1)) - 1 = M → MaskOk M → SetTable.sizeAbove (SetTable.grown (L.length + 1)) ≤ 128 → (L.length + 1) * 5 < M * 3 →
        wpAny (model P w) A (setRelay a (SetTable.grown (L.length + 1))) (fun _ s2 => wpAny (model P w) A (pure true) Q E s2) E { s with heap := g1 } := fun M m1 m2 m3 m4 =>
      bag_relay (s := { s with heap := g1 }) st ⟨hex.1, hex.2.1, hex.2.2⟩ rfl r1 pz p3.dm (by rw [sz1, lz, p4]; rcases which with ⟨e, z⟩ | ⟨e, z⟩ <;> omega) un tp pl1 ldd m1 m2 m3 (by rw [lz]; exact m4) fun g2 L2 es2 ep2 t2 same2 b2 pm2 =>
        wpAny_pure (q g2 L2 es2 ep2 t2 (same.trans same2) b2 (pm2.trans pm))
    rcases which with ⟨_, z⟩ | ⟨_, z⟩
    · exact lay 31 (by rw [z, size_20]) (.inr (.inl rfl)) (by rw [z, size_20]; decide) (by omega)
    · exact lay 127 (by rw [z, size_76]) (.inr (.inr rfl)) (by rw [z, size_76]; decide) (by omega)
  · have f : u.tooFull = false := by rw [tf]; exact decide_eq_false full2
    first
      | refine wp_if_neg (by simp [f]) ?_
      | (refine wpAny_bind ?_; refine wp_if_neg (by simp [f]) ?_; refine wpAny_pure ?_)
    exact wpAny_pure (q g1 L1 es1 (ep + 1) u same ⟨⟨_, st, ⟨hex.1, hex.2.1, hex.2.2⟩, rfl⟩, r1, p3, un, tp, pl1, ldd, by rw [lz]; omega⟩ pm)
end
end Vs
end
section
namespace Vs
open PySem PySem.Spec PyProof.Rows L2
section
variable {P : Program} {w : World} {A : Around} {E : Value → Shared → Prop} {s : Shared}
theorem Bag.stay {g g2 : Heap} {a : Addr} {L : List (Addr × List Int)} {es : Array (Int × Value)} {ep : Nat} {t : SetTable} (b : Bag P w g a L es ep t) (k : ∀ o, g.get? a = some o → g2.get? a = some o) (tp : ∀ q ∈ L, IsT P w g2 q.2 q.1) : Bag P w g2 a L es ep t := by
  obtain ⟨o, ho, r⟩ := b.at_
  exact ⟨⟨o, k o ho, r⟩, b.row, b.tb, b.un, tp, b.pln, b.ldd, b.rm⟩
/-- a set just made -/
abbrev set0 (w : World) : Obj := { cls := .type "set", dict := none, data := .set #[] 0 (.fresh 0 0 (!w.params.followText "set-order")) }
theorem bag0 {g : Heap} {a : Addr} (h : g.get? a = some (set0 w)) : Bag P w g a [] #[] 0 (.fresh 0 0 (!w.params.followText "set-order")) := by
  refine ⟨⟨_, h, ⟨rfl, rfl, rfl⟩, rfl⟩, rfl, ⟨List.Pairwise.nil, rfl, rfl, .inl rfl, (fun x hx => by cases hx), (fun i h j hi => by simp at hi)⟩, List.nodup_nil, (fun q hq => by cases hq), rfl, ?_, by show 0 * 5 < 7 * 3; decide⟩
  show _ ∨ (!w.params.followText "set-order") = true
  cases w.params.followText "set-order" with
  | false => exact .inr rfl
  | true => exact .inl rfl
theorem take_succ_of {α : Type} {l : List α} {i : Nat} {x : α} (h : l[i]? = some x) : l.take (i + 1) = l.take i ++ [x] := by rw [List.take_succ, h]; rfl
theorem new_at {ks L : List (Addr × List Int)} {i : Nat} {p : Addr × List Int} (un : (ks.map fun q => q.2).Nodup) (h : ks[i]? = some p) (pm : L.Perm (ks.take i)) : p.2 ∉ L.map fun q => q.2 := by
  intro z
  have z2 : p.2 ∈ (ks.take i).map fun q => q.2 := (pm.map fun q => q.2).mem_iff.mp z
  have un2 : ((ks.take (i + 1)).map fun q => q.2).Nodup := un.sublist ((List.take_sublist _ _).map _)
  rw [take_succ_of h, List.map_append, List.nodup_append] at un2
  exact un2.2.2 _ z2 _ (by simp) rfl
/-- the loop over the tuples, no two alike -/
theorem bag_loop {I : Addr} {fp wr : List Addr} {G : Array GenState → Array GenState → Prop} {n : Nat} {Pv : Nat → Value → Prop} {St : Nat → Shared → Prop} {R : Result → Shared → Prop} (W : WalksS P w A.in1 I fp wr G n Pv St) (S : Addr) (off : S ∉ fp) (ks : List (Addr × List Int))
    (hn : n = ks.length) (few : ks.length ≤ 76) (un : (ks.map fun q => q.2).Nodup) (val : ∀ i v, Pv i v → ∃ p, ks[i]? = some p ∧ v = .ref p.1) (g0 : Heap) (tp : ∀ q ∈ ks, IsT P w g0 q.2 q.1) (nS : g0.get? S = none) (nW : ∀ b ∈ wr, g0.get? b = none) (hu : A.in1.units < cLine) :
    ∀ (m i : Nat) (s : Shared), n - i = m → i ≤ n → St i s → (∀ b o, g0.get? b = some o → s.heap.get? b = some o) → (∃ L es ep t, Bag P w s.heap S L es ep t ∧ L.Perm (ks.take i)) →
      (∀ s2 L es ep t, Moved (S :: wr) G s s2 → Bag P w s2.heap S L es ep t → L.Perm ks → (∀ b o, g0.get? b = some o → s2.heap.get? b = some o) → R (.ok (.ret .none)) s2) → codeAny (model P w) A (.builtin "set.update.loop" ⟨[.ref S, .ref I], []⟩) R s := by
  have offW : S ∉ wr := fun z => off (W.sub _ z)
  have up : ∀ b ∈ wr, b ∈ S :: wr := fun b z => List.mem_cons_of_mem _ z
  have old : ∀ {s1 s2 : Shared}, Moved wr G s1 s2 → (∀ b o, g0.get? b = some o → s1.heap.get? b = some o) → ∀ b o, g0.get? b = some o → s2.heap.get? b = some o := fun mv k b o e =>
    mv.heap b o (fun z => by rw [nW b z] at e; cases e) (k b o e)
  intro m
  induction m with
  | zero =>
    intro i s hm hi st k0 ⟨L, es, ep, t, b, pm⟩ done
    obtain rfl : i = n := by omega
    refine codeAny_builtin F.entry_set_update_loop ?_
    rw [Around.under_plainId F.plain_set_update_loop _]
    show wpAny _ A.in1 (pyNext (.ref I) >>= _) _ _ s
    refine wpAny_bind (W.done s _ _ st fun s2 mv => ?_); show wpAny _ A.in1 (ret Value.none) _ _ s2
    have k2 := old mv k0
    rw [hn, List.take_length] at pm
    exact wpAny_pure (done s2 L es ep t (mv.mono up) (b.stay (fun o e => mv.heap S o offW e) fun q hq => isT_keep (tp q (pm.mem_iff.mp hq)) k2) pm k2)
  | succ m ih =>
    intro i s hm hi st k0 ⟨L, es, ep, t, b, pm⟩ done
    have lt : i < n := by omega
    refine codeAny_builtin F.entry_set_update_loop ?_
    rw [Around.under_plainId F.plain_set_update_loop _]
    show wpAny _ A.in1 (pyNext (.ref I) >>= _) _ _ s
    refine wpAny_bind (W.item i s _ _ lt st fun v s2 pv st2 mv => ?_)
    obtain ⟨p, hp, rfl⟩ := val i v pv
    have k2 := old mv k0
    have inK : ∀ q ∈ L, q ∈ ks := fun q hq => List.mem_of_mem_take (pm.mem_iff.mp hq)
    have b2 : Bag P w s2.heap S L es ep t := b.stay (fun o e => mv.heap S o offW e) fun q hq => isT_keep (tp q (inK q hq)) k2
    have hx : IsT P w s2.heap p.2 p.1 := isT_keep (tp p (List.mem_of_getElem? hp)) k2
    have ll : L.length + 1 ≤ 76 := by rw [pm.length_eq, List.length_take]; omega
    show wpAny _ A.in1 (holding [Value.ref p.1] (setAdd S (.ref p.1)) >>= _) _ _ s2
    refine wpAny_bind (wpAny_holding ?_)
    unfold setAdd
    refine wpAny_holding (wpAny_bind (wpAny_pyHash_tuple hu hx (bag_add (s := { s2 with toks := s2.toks + (p.2.length + 1) }) b2 hx hu (new_at un hp pm) ll fun g L2 es2 ep2 t2 same b3 pm2 => ?_)))
    have pm3 : L2.Perm (ks.take (i + 1)) := by
      rw [take_succ_of hp]
      exact pm2.trans ((List.Perm.cons _ pm).trans (List.perm_append_singleton _ _).symm)
    have k3 : ∀ b o, g0.get? b = some o → g.get? b = some o := fun b o e => (same.2 b fun z => by rw [z, nS] at e; cases e).trans (k2 b o e)
    refine wpAny_pure ⟨plainId_quiet F.plain_set_update_loop _, ih (i + 1) _ (by omega) lt (W.frame _ s2 _ _ st2 (Nat.le_add_right _ _) fun b hb o e => ?_) k3 ⟨L2, es2, ep2, t2, b3, pm3⟩ fun s3 L3 es3 ep3 t3 mv3 b4 pm4 k4 => ?_⟩
    · rw [same.2 b fun (z : b = S) => off (z ▸ hb)]; exact e
    · refine done s3 L3 es3 ep3 t3 (Moved.trans W.gtrans ((mv.mono up).then_heap (Nat.le_add_right _ _) fun b o hb e => ?_) mv3) b4 pm4 k4
      rw [same.2 b fun (z : b = S) => hb (z ▸ List.mem_cons_self)]; exact e
/-- set(xs) of tuples of ints, no two alike -/
theorem call_bag {l : Addr} {items : Array Value} (ks : List (Addr × List Int)) {Q : Value → Shared → Prop} (hh : A.handled = none) (hl : s.heap.IsList l items) (hit : items.toList = ks.map fun q => Value.ref q.1) (tp : ∀ q ∈ ks, IsT P w s.heap q.2 q.1) (few : ks.length ≤ 76)
    (un : (ks.map fun q => q.2).Nodup) (hu : A.units + 3 < cLine) (q : ∀ (g : Heap) (tk : Nat) L es ep t, Bag P w g s.heap.objs.size L es ep t → L.Perm ks → (∀ b o, s.heap.get? b = some o → g.get? b = some o) → Q (.ref s.heap.objs.size) { s with heap := g, toks := tk }) :
    wpAny (model P w) A (call (.type "set") [.ref l]) Q E s := by
  have isz : items.size = ks.length := by rw [← Array.length_toList, hit, List.length_map]
  obtain ⟨c, tl, f0⟩ := F.called_set.mro
  have f1 := F.called_set.made; have f2 := F.called_set.sub; have f3 := F.called_set.notType; have f4 := F.called_set.canCreate; have f5 := F.typeCall_set_1 (.ref l)
  refine wpAny_call (codeAny_of_tree ?_); show wpAny _ _ (callAny (.type "set") _) _ _ _
  refine wpAny_pure ⟨Code.quiet_builtin _ (by decide +kernel), codeAny_builtin F.entry_type_call ?_⟩
  rw [Around.under_plain (weight_type_call_type "set" [.ref l] []) rfl]
  repeat (any_goals (first | assumption | wp_step))
  refine codeAny_mono (code_set_led1 (.ref l) (E := E) (Q₁ := fun obj s₁ => obj = .ref s.heap.objs.size ∧ s₁ = { s with heap := s.heap.push (set0 w) }) ⟨rfl, rfl⟩) fun r s1 hr => ?_
  cases r with
  | error e => exact hr
  | ok fl =>
    cases fl with
    | ret obj =>
      obtain ⟨rfl, rfl⟩ := hr
      have hS : (s.heap.push (set0 w)).get? s.heap.objs.size = some (set0 w) := Heap.get?_push_size _ rfl
      have hT : Shared.TypeIs { s with heap := s.heap.push (set0 w) } (.ref s.heap.objs.size) "set" := ⟨_, hS, rfl⟩
      have i1 := F.called_set.init.lookup; have i2 := F.called_set.init.bind (.ref s.heap.objs.size)
      repeat (any_goals (first | assumption | wp_step))
      refine codeAny_mono (codeAny_call_builtin (R := wants (fun r s2 => r = .none ∧ ∃ g tk L es ep t, s2 = { s with heap := g, toks := tk } ∧ Bag P w g s.heap.objs.size L es ep t ∧ L.Perm ks ∧ (∀ b o, s.heap.get? b = some o → g.get? b = some o)) E) F.called_set.init.plain F.entry_set_init (check_set_init_1 hT ?_)) fun r2 s2 hr2 => ?_
      · obtain ⟨⟨lc, ld, la, ls⟩, hol, e1, nl, e2⟩ := hl
        simp only at e1 e2
        subst e1; subst e2
        have hol2 : (s.heap.push (set0 w)).get? l = some { cls := .type "list", dict := ld, data := .seq items nl, slots := ls } := Heap.get?_push_of_some _ hol
        have u1 := F.sub_list_set; have u2 := F.sub_list_frozenset; have u3 : (Value.type "list" == Value.type "dict") = false := by decide
        have hl1 : (s.heap.push (set0 w)).IsList l items := ⟨_, hol2, rfl, nl, rfl⟩
        have lt := Heap.lt_size hol
        have hh3 : A.in1.in1.in1.handled = none := by simp [hh]
        unfold Builtin.«set.__init__» noKeywords Builtin.Frozenset.updateFrom
        generalize hPI : pyIter = PI
        wp_walk
        subst hPI
        refine wpAny_pyIter_list hl1 (wpAny_bind (wpAny_runValue ?_))
        have z1 : (s.heap.push (set0 w)).objs.size = s.heap.objs.size + 1 := Heap.size_push ..
        have neI : l ≠ (s.heap.push (set0 w)).objs.size := by rw [z1]; exact Nat.ne_of_lt (Nat.lt_succ_of_lt lt)
        have offS : s.heap.objs.size ∉ [(s.heap.push (set0 w)).objs.size, l] := by
          rw [z1]; simp only [List.mem_cons, List.not_mem_nil, or_false, not_or]; exact ⟨Nat.ne_of_lt (Nat.lt_succ_self _), Nat.ne_of_gt lt⟩
        have val : ∀ (i : Nat) (v : Value), items[i]? = some v → ∃ p, ks[i]? = some p ∧ v = .ref p.1 := fun i v hv => by
          rw [← Array.getElem?_toList, hit, List.getElem?_map, Option.map_eq_some_iff] at hv
          obtain ⟨p, h1, h2⟩ := hv
          exact ⟨p, h1, h2.symm⟩
        have no : ∀ b, s.heap.objs.size ≤ b → s.heap.get? b = none := fun b hb => Heap.get?_none_of_le hb
        refine bag_loop ((Walks.list hh3 _ l neI items).toS) s.heap.objs.size offS ks isz few un val s.heap tp (no _ (Nat.le_refl _)) (fun b hb => no b (by rw [List.mem_singleton.mp hb, z1]; exact Nat.le_succ _)) hu (items.size - 0) 0 _ (by omega) (Nat.zero_le _)
          ⟨⟨_, Heap.get?_push_size _ rfl, rfl, rfl⟩, hl1.push _⟩ (fun b o e => Heap.get?_push_of_some _ (Heap.get?_push_of_some _ e)) ⟨[], #[], 0, _, bag0 (Heap.get?_push_of_some _ hS), by simp⟩ fun s3 L es ep t mv b pm k => ?_
        obtain ⟨g, gg, dd, tk, oo⟩ := s3
        have eg : gg = s.gens := mv.gens
        have ed : dd = s.drawn := mv.drawn
        have eo : oo = s.os := mv.os
        subst eg; subst ed; subst eo
        show wpAny _ _ _ _ _ _
        refine wpAny_pure ?_; show wpAny _ _ (ret Value.none) _ _ _
        exact wpAny_pure ⟨rfl, g, tk, L, es, ep, t, rfl, b, pm, k⟩
      · cases r2 with
        | error e => exact hr2
        | ok fl2 =>
          cases fl2 with
          | ret r =>
            obtain ⟨rfl, g, tk, L, es, ep, t, rfl, b, pm, k⟩ := hr2
            repeat (any_goals (first | assumption | wp_step))
            exact q _ _ _ _ _ _ b pm k
          | _ => exact hr2.elim
    | _ => exact hr.elim
end
end Vs
end
section
namespace Vs
open PySem PySem.Spec PyProof.Rows L2
/-! ## len(set(xs)): of ints, or of pairs no two of which are alike -/
def LsetC (K : PySem.W.Frag) (H : Hp) (l : Addr) (n : Nat) : Prop := (∃ ns : List Int, SqL K H l (ns.map V.int) ∧ ns.length ≤ 4000 ∧ n = distN ns) ∨
  ∃ ks : List (Addr × List Int), SqL K H l (ks.map fun q => V.ref q.1) ∧ (∀ q ∈ ks, SqT K H q.1 (q.2.map V.int)) ∧ ks.length ≤ 76 ∧ (ks.map fun q => q.2).Nodup ∧ n = ks.length
def tLenE (K : PySem.W.Frag) (ta : TE) : TE := fun σ H Q => ta σ H fun x H1 => ∃ l n, x = .ref l ∧ LsetC K H1 l n ∧ Q (.int (n : Nat)) H1
theorem pe_lenE {X : Cx} {a : Expr} {ta : TE} {p1 p2 q1 q2 : Pos} (g1 : Gl X "len") (m1 : X.mg "len" = none) (g2 : Gl X "set") (m2 : X.mg "set" = none) (pa : PE X a ta) (calm : X.calm = true) (hu : X.A.units + 64 < cLine) (st : starEach [a] X.env = (false, eval a X.env) :: starEach [] X.env := by rfl) :
    PE X (.Call (.Name "len" p1) [.Call (.Name "set" p2) [a] [] q1] [] q2) (tLenE X.K ta) := by
  constructor
  intro pins s σ H Q I h
  refine Call_ (ld_blt I g1 m1 boot_len ?_)
  apply PyProof.Rows.callWith_builtin1 (PyProof.Rows.args_cons ?_ rfl) rfl rfl
  refine Call_ (ld_blt I g2 m2 boot_set ?_)
  apply PyProof.Rows.callWith_type1 (PyProof.Rows.args_cons (thn (pa.run pins s σ H _ I h) ?_) st) st rfl
  rintro v s1 ⟨x, H1, J, rx, l, n, e, hc, q⟩
  subst e
  cases rx
  apply PyProof.Rows.args_nil
  rcases hc with ⟨ns, hq, hl, rfl⟩ | ⟨ks, hq, tp, few, un, rfl⟩
  · obtain ⟨its, rv, pl, hz⟩ := J.list hq
    have sz : its.toArray.size = ns.length := by rw [List.size_toArray, ← rv.length, List.length_map]
    refine call_set_list (J.ok.hd calm) pl.isList (by simpa using RZ.intsAre_vals rv) (by rw [sz]; unfold scanBound; omega) ?_
    intro h' tk so kp
    apply PyProof.Rows.args_nil
    rw [sz] at so
    obtain ⟨o, es, ep, t, ho, hex, hd, _, _, _, hf, hn⟩ := so
    have le := firstMet_length_le (fun i => ns.getD i 0) ns.length
    have J2 : Inv X pins σ H1 { s1 with heap := h', toks := tk } := J.kept fun b o z => kp b o (Heap.lt_size z) z
    exact call_len_set ho hex hd hf (by rw [hn]; omega) ⟨.int (distN ns : Nat), H1, J2.tok _, ⟨_, by rw [hn]; rfl⟩, q⟩
  · obtain ⟨its, rv, pl, hz⟩ := J.list hq
    refine call_bag (P := X.prog) (w := X.w) ks (J.ok.hd calm) pl.isList (by simpa using refs_of_vals rv) (fun z hz => J.isT (tp z hz)) few un (by omega) fun g tk L es ep t b pm kp => ?_
    apply PyProof.Rows.args_nil
    obtain ⟨o, ho, hex, hd⟩ := b.at_
    have sz := (row_sz b.row).trans pm.length_eq
    have J2 : Inv X pins σ H1 { s1 with heap := g, toks := tk } := J.kept kp
    have fits : t.fits es.size = true := Bag.fits (s := { s1 with heap := g }) b
    exact call_len_set ho hex hd fits (by rw [sz]; omega) ⟨.int (ks.length : Nat), H1, J2.tok _, ⟨_, by rw [sz]⟩, q⟩
def oLsetE : R → M R := fun r => match r.sq?.bind ints? with
  | some ns => if ns.length ≤ 4000 then .ok (.d (.int (distN ns))) else .error .stuck
  | none => (match r.sq?.bind prs? with
    | some ps => if ps.Nodup ∧ ps.length ≤ 76 then .ok (.d (.int ps.length)) else .error .stuck
    | none => .error .stuck)
variable {w : Wd} {W : WX}
theorem prs_keys {H G : Hp} (s : Same G H) : ∀ {ps : List (Int × Int)} {vs : List V}, RpL G vs (ps.map prD) → ∃ ks : List (Addr × List Int), vs = ks.map (fun q => V.ref q.1) ∧ ks.map (fun q => q.2) = ps.map (fun p => [p.1, p.2]) ∧ ∀ q ∈ ks, H q.1 = some (.tup (q.2.map V.int))
  | [], _, h => by
    cases h
    exact ⟨[], rfl, rfl, fun q hq => nomatch hq⟩
  | p :: ps, _, h => by
    cases h with
    | cons h1 h2 =>
      obtain ⟨t, rfl, ht⟩ := prV_of h1
      obtain ⟨ks, e1, e2, e3⟩ := prs_keys s h2
      refine ⟨(t, [p.1, p.2]) :: ks, by rw [e1]; rfl, by rw [List.map_cons, e2]; rfl, fun q hq => ?_⟩
      rcases List.mem_cons.mp hq with rfl | hq
      · exact s _ _ ht
      · exact e3 q hq
theorem xe_lenSetE {X : Cx} {k : Nat} {a : Expr} {fa : Sl → M R} {p1 p2 q1 q2 : Pos} (ok : w.Ok) (hK : X.K = w.K) (hr : Room k X.A) (hc : X.calm = true) (hg : Gl X "len") (hm : X.mg "len" = none) (hg2 : Gl X "set") (hm2 : X.mg "set" = none) (ha : PE X a (rdE w W fa))
    (na : starEach [a] X.env = (false, eval a X.env) :: starEach [] X.env := by rfl) : PE X (.Call (.Name "len" p1) [.Call (.Name "set" p2) [a] [] q1] [] q2) (rdE w W (eUn oLsetE fa)) := by
  refine PEi (pe_lenE hg hm hg2 hm2 ha hc (room64 hr) na) fun σ H Q h => ?_
  obtain ⟨H0, B, env, G, g, x, h⟩ := h
  refine rdE_bind ok g x h fun r v H1 G1 g1 rr _ g01 x1 h1 => ?_
  unfold oLsetE at h1
  split at h1
  · rename_i ns e1
    split at h1
    · rename_i c
      rw [Option.bind_eq_some_iff] at e1
      obtain ⟨xs, e2, e3⟩ := e1
      rw [ints_eq e3] at e2
      obtain ⟨l, vs, rfl, hq, hr⟩ := rr.sq g1.s e2
      rw [RpL.ints hr] at hq
      exact ⟨l, _, rfl, .inl ⟨ns, by rw [hK]; exact hq, c, rfl⟩, h1.done g1.s (.int _) (Fr.no rfl)⟩
    · exact h1.elim
  · split at h1
    · rename_i ps e1
      split at h1
      · rename_i c
        rw [Option.bind_eq_some_iff] at e1
        obtain ⟨xs, e2, e3⟩ := e1
        rw [prs_eq e3] at e2
        obtain ⟨l, vs, rfl, hq, hr⟩ := rr.sq g1.s e2
        obtain ⟨ks, f1, f2, f3⟩ := prs_keys g1.s hr
        have kl : ks.length = ps.length := by have := congrArg List.length f2; simpa using this
        have un : (ks.map fun q => q.2).Nodup := by
          rw [f2]
          refine List.Pairwise.map _ (fun p q hne e => hne ?_) c.1
          obtain ⟨p1, p2⟩ := p
          obtain ⟨q1, q2⟩ := q
          simp at e
          rw [e.1, e.2]
        rw [f1] at hq
        refine ⟨l, _, rfl, .inr ⟨ks, by rw [hK]; exact hq, fun q hq => SqT.of (f3 q hq), by omega, un, rfl⟩, ?_⟩
        rw [kl]
        exact h1.done g1.s (.int _) (Fr.no rfl)
      · exact h1.elim
    · exact h1.elim
end Vs
end
section
namespace Vs
open PySem PySem.Spec PyProof.Rows L2
/-! ## sets of tuples of ints: tuples that come twice -/
section
variable {P : Program} {w : World} {A : Around} {E : Value → Shared → Prop} {s : Shared} {a : Addr} {L : List (Addr × List Int)} {es : Array (Int × Value)} {ep : Nat} {t : SetTable}
/-- the way of a tuple, from its c-th step on; it may be there -/
theorem bag_fromB (b : Bag P w s.heap a L es ep t) {x : Addr} {k : List Int} (hx : IsT P w s.heap k x) (hu : A.units < cLine) {K : Nat} (far : K < 10 * SetTable.turns t.mask)
    (stop : way t.mask (thash P w k) K ∉ t.place.toList) (full : ∀ c, c < K → way t.mask (thash P w k) c ∈ t.place.toList) {Q : SetFound → Shared → Prop} (q0 : k ∈ L.map (fun q => q.2) → Q (.there none) s) (q : k ∉ L.map (fun q => q.2) → Q (.free (way t.mask (thash P w k) K) false) s) :
    ∀ (fuel c : Nat) (stand : Option SetTable.Probe), stand.getD (t.probeStart (thash P w k)) = prb t.mask (thash P w k) c → c ≤ K → K - c < fuel →
      (∀ (i : Nat) z, L[i]? = some z → z.2 = k → ∃ d, c ≤ d ∧ d < K ∧ t.place.toList[i]? = some (way t.mask (thash P w k) d)) → wpAny (model P w) A (setSearchFrom a (.ref x) (thash P w k) true fuel stand) Q E s := by
  intro fuel
  induction fuel with
  | zero => intro c stand _ _ z; omega
  | succ fuel ih =>
    intro c stand hst hc hf ahead
    obtain ⟨o, ho, hex, hd⟩ := b.at_
    have no := nth_plain (m := t.mask) (p := runAt t.mask (SetTable.bits (thash P w k) % (t.mask + 1)) (SetTable.bits (thash P w k))) c rfl
    have spec := go_spec t b.tb.ris b.tb.dm (fun i => (es[i]?.map (·.1)).getD 0) (thash P w k) (10 * SetTable.turns t.mask) (K - c) (prb t.mask (thash P w k) c) no (by omega)
      (fun r hr => by rw [prb_on]; exact full (c + r) (by omega)) (by rw [prb_on, show c + (K - c) = K by omega]; exact stop)
    have hashOf : ∀ (i : Nat) z, L[i]? = some z → (es[i]?.map (·.1)).getD 0 = thash P w z.2 := fun i z hz => by rw [b.nth hz]; rfl
    rw [setSearchFrom_succ]
    refine wpAny_bind (wpAny_setState_of ho hd b.fits ?_)
    dsimp only
    refine wp_if_neg (by rw [b.steady]; decide) ?_
    try refine wpAny_bind (wpAny_pure ?_)
    rcases spec with ⟨r, i, hr, hi, hh, hno, hp⟩ | ⟨hno, hp⟩
    · -- a tuple of the same hash
      rw [prb_on] at hi
      have hp2 : t.probe (fun i => (es[i]?.map (·.1)).getD 0) (thash P w k) (stand.getD (t.probeStart (thash P w k))) = some (.candidate (way t.mask (thash P w k) (c + r)) i (prb t.mask (thash P w k) (c + (r + 1)))) := by
        rw [hst, ← prb_way, ← prb_on, ← prb_on]
        exact hp
      rw [hp2]
      dsimp only
      have il : i < L.length := by
        rw [← b.places, ← Array.length_toList]
        exact (List.getElem?_eq_some_iff.mp hi).1
      have hq := List.getElem?_eq_getElem il
      have hm : L[i] ∈ L := List.getElem_mem il
      have go : wpAny (model P w) A (searchRest a (.ref x) (thash P w k) true fuel es t (way t.mask (thash P w k) (c + r)) i (prb t.mask (thash P w k) (c + (r + 1)))) Q E s := by
        have sl : t.slot (way t.mask (thash P w k) (c + r)) = .live i := slot_live b.tb.ris hi
        unfold searchRest
        rw [b.nth hq]
        dsimp only
        refine wpAny_bind (wpAny_holding (wpAny_eqBool_tuple hu (b.tp _ hm) hx (wpAny_bind (wpAny_setState_of ho hd b.fits ?_))))
        dsimp only
        by_cases ne : L[i].2 = k
        · refine wp_if_pos (by simp [ne]) ?_
          exact wpAny_pure (q0 (List.mem_map.mpr ⟨_, hm, ne⟩))
        · refine wp_if_neg (by simp [ne]) ?_
          try refine wpAny_bind (wpAny_pure ?_)
          rw [sameMem]
          dsimp only
          simp only [if_true, sl, b.nth hq]
          refine wpAny_bind (wpAny_isSame_ref_self (wpAny_bind (wpAny_pure ?_)))
          simp only [if_true]
          refine wp_if_neg (by simp [ne]) ?_
          refine ih (c + (r + 1)) _ rfl (by omega) (by omega) fun i2 z2 hz2 hk2 => ?_
          obtain ⟨d, d1, d2, d3⟩ := ahead i2 z2 hz2 hk2
          refine ⟨d, ?_, d2, d3⟩
          have early : ¬ d < c + r := fun z => by
            refine hno (d - c) i2 (by omega) ?_ ((hashOf i2 z2 hz2).trans (congrArg (thash P w) hk2))
            rw [prb_on, show c + (d - c) = d by omega]
            exact d3
          have here : d ≠ c + r := fun z => by
            rw [z] at d3
            have s2 := slot_live b.tb.ris d3
            rw [sl] at s2
            injection s2 with s2
            rw [← s2, hq] at hz2
            exact ne ((congrArg Prod.snd (Option.some.inj hz2)).trans hk2)
          omega
      by_cases ld : t.led = true
      · refine wp_if_neg (by simp [ld]) ?_
        try refine wpAny_bind (wpAny_pure ?_)
        exact go
      · refine wp_if_pos (by simp [ld]) (wpAny_bind (seen_tup hx (fun y hy => ?_) ?_))
        · obtain ⟨e, he, rfl⟩ := List.mem_map.mp hy
          have he2 : e ∈ es.toList := by
            have : e ∈ es ∧ e.1 = thash P w k := by simpa using he
            simpa using this.1
          rw [b.row] at he2
          obtain ⟨q2, h2, rfl⟩ := List.mem_map.mp he2
          exact ⟨q2.2, q2.1, rfl, b.tp q2 h2⟩
        · refine wp_if_neg (by decide) ?_
          try refine wpAny_bind (wpAny_pure ?_)
          exact go
    · -- nothing stands there
      have hp2 : t.probe (fun i => (es[i]?.map (·.1)).getD 0) (thash P w k) (stand.getD (t.probeStart (thash P w k))) = some (.empty (way t.mask (thash P w k) K) none) := by
        rw [hst, ← prb_way, show K = c + (K - c) by omega, ← prb_on]
        exact hp
      rw [hp2]
      refine wpAny_pure (q fun z => ?_)
      obtain ⟨z, hz, hk⟩ := List.mem_map.mp z
      obtain ⟨i2, h2⟩ := List.getElem?_of_mem hz
      obtain ⟨d, d1, d2, d3⟩ := ahead i2 z h2 hk
      refine hno (d - c) i2 (by omega) ?_ ((hashOf i2 z h2).trans (congrArg (thash P w) hk))
      rw [prb_on, show c + (d - c) = d by omega]
      exact d3
theorem bag_searchB (b : Bag P w s.heap a L es ep t) {x : Addr} {k : List Int} (hx : IsT P w s.heap k x) (hu : A.units < cLine) {Q : SetFound → Shared → Prop} (q0 : k ∈ L.map (fun q => q.2) → Q (.there none) s)
    (q : k ∉ L.map (fun q => q.2) → ∀ K, way t.mask (thash P w k) K ∉ t.place.toList → (∀ c, c < K → way t.mask (thash P w k) c ∈ t.place.toList) → Q (.free (way t.mask (thash P w k) K) false) s) : wpAny (model P w) A (setSearch a (.ref x) (thash P w k) true) Q E s := by
  have rm := b.rm
  obtain ⟨K, far, stop, full⟩ := b.tb.first (by rw [List.length_map]; omega) (thash P w k)
  have bd : K < 100000 := by
    have : SetTable.turns t.mask ≤ 142 := by rcases b.tb.mok with e | e | e <;> rw [e] <;> decide
    omega
  unfold setSearch
  refine bag_fromB b hx hu far stop full q0 (fun n => q n K stop full) 100000 0 none rfl (Nat.zero_le _) (by omega) fun i z hz hk => ?_
  have hi : (L.map fun z => thash P w z.2)[i]? = some (thash P w k) := by rw [List.getElem?_map, hz, ← hk]; rfl
  have il : i < t.place.toList.length := by
    rw [Array.length_toList, b.places]
    exact (List.getElem?_eq_some_iff.mp hz).1
  obtain ⟨c, hc, e⟩ := b.tb.before stop hi (List.getElem?_eq_getElem il)
  exact ⟨c, Nat.zero_le _, hc, by rw [List.getElem?_eq_getElem il, e]⟩
end
end Vs
end
section
namespace Vs
open PySem PySem.Spec PyProof.Rows L2
theorem sub_lenD {α : Type} [DecidableEq α] : ∀ {l m : List α}, l.Nodup → (∀ x ∈ l, x ∈ m) → l.length ≤ m.length
  | [], m, _, _ => by simp
  | x :: xs, m, hn, h => by
    have ih := sub_lenD (l := xs) (m := m.erase x) (List.nodup_cons.mp hn).2 fun y hy => (List.mem_erase_of_ne fun e : y = x => (List.nodup_cons.mp hn).1 (e ▸ hy)).mpr (h y (List.mem_cons_of_mem _ hy))
    have := List.length_erase_of_mem (h x List.mem_cons_self)
    have := List.length_pos_of_mem (h x List.mem_cons_self)
    rw [List.length_cons]
    omega
/-- the tuples met so far, each once -/
structure Had (ks : List (Addr × List Int)) (i : Nat) (L : List (Addr × List Int)) : Prop where
  sub : ∀ q ∈ L, q ∈ ks.take i
  all : ∀ q ∈ ks.take i, q.2 ∈ L.map fun q => q.2
theorem Had.none (ks : List (Addr × List Int)) : Had ks 0 [] := ⟨(fun q h => nomatch h), (fun q h => by simp at h)⟩
theorem Had.same {ks L : List (Addr × List Int)} {i : Nat} {x : Addr × List Int} (g : Had ks i L) (h : ks[i]? = some x) (m : x.2 ∈ L.map fun q => q.2) : Had ks (i + 1) L := by
  constructor
  · intro q hq
    rw [take_succ_of h]
    exact List.mem_append_left _ (g.sub q hq)
  · intro q hq
    rw [take_succ_of h] at hq
    rcases List.mem_append.mp hq with z | z
    · exact g.all q z
    · rw [List.mem_singleton.mp z]; exact m
theorem Had.more {ks L L2 : List (Addr × List Int)} {i : Nat} {x : Addr × List Int} (g : Had ks i L) (h : ks[i]? = some x) (pm : L2.Perm (x :: L)) : Had ks (i + 1) L2 := by
  constructor
  · intro q hq
    rw [take_succ_of h]
    rcases List.mem_cons.mp (pm.mem_iff.mp hq) with e | z
    · exact List.mem_append_right _ (by rw [e]; exact List.mem_singleton.mpr rfl)
    · exact List.mem_append_left _ (g.sub q z)
  · intro q hq
    rw [take_succ_of h] at hq
    refine (pm.map fun q => q.2).mem_iff.mpr ?_
    rcases List.mem_append.mp hq with z | z
    · exact List.mem_cons_of_mem _ (g.all q z)
    · rw [List.mem_singleton.mp z]; exact List.mem_cons_self
section
variable {P : Program} {w : World} {A : Around} {E : Value → Shared → Prop} {s : Shared}
theorem bag_addB {a : Addr} {L : List (Addr × List Int)} {es : Array (Int × Value)} {ep : Nat} {t : SetTable} (b : Bag P w s.heap a L es ep t) {x : Addr} {k : List Int} (hx : IsT P w s.heap k x) (hu : A.units < cLine) (room : k ∉ L.map (fun q => q.2) → L.length + 1 ≤ 76) {Q : Bool → Shared → Prop}
    (q0 : k ∈ L.map (fun q => q.2) → Q false s) (q : k ∉ L.map (fun q => q.2) → ∀ g L2 es2 ep2 t2, Heap.SameBut a s.heap g → Bag P w g a L2 es2 ep2 t2 → L2.Perm ((x, k) :: L) → Q true { s with heap := g }) : wpAny (model P w) A (setAddHashed a (.ref x) (thash P w k)) Q E s := by
  by_cases m : k ∈ L.map (fun q => q.2)
  · obtain ⟨o, ho, hex, hd⟩ := b.at_
    have scan : ¬ byScan (.ref x) es = true := by simp [byScan, Value.scannable]
    unfold setAddHashed
    refine wpAny_holding ?_
    show wpAny _ _ (setAddHashedIn a (.ref x) (thash P w k) (99999 + 1)) _ _ _
    rw [setAddHashedIn_succ]
    refine wpAny_bind (wpAny_setState_of ho hd b.fits ?_)
    dsimp only
    refine wp_if_neg scan ?_
    try refine wpAny_bind (wpAny_pure ?_)
    refine wpAny_bind (bag_searchB b hx hu (fun _ => ?_) fun n => absurd m n)
    dsimp only
    exact wpAny_pure (q0 m)
  · exact bag_add b hx hu m (room m) (q m)
/-- the loop over the tuples -/
theorem bag_loopB {I : Addr} {fp wr : List Addr} {G : Array GenState → Array GenState → Prop} {n : Nat} {Pv : Nat → Value → Prop} {St : Nat → Shared → Prop} {R : Result → Shared → Prop} (W : WalksS P w A.in1 I fp wr G n Pv St) (S : Addr) (off : S ∉ fp) (ks : List (Addr × List Int)) (D : List (List Int))
    (hn : n = ks.length) (few : D.length ≤ 76) (un : ∀ q ∈ ks, q.2 ∈ D) (val : ∀ i v, Pv i v → ∃ p, ks[i]? = some p ∧ v = .ref p.1) (g0 : Heap) (tp : ∀ q ∈ ks, IsT P w g0 q.2 q.1) (nS : g0.get? S = none) (nW : ∀ b ∈ wr, g0.get? b = none) (hu : A.in1.units < cLine) :
    ∀ (m i : Nat) (s : Shared), n - i = m → i ≤ n → St i s → (∀ b o, g0.get? b = some o → s.heap.get? b = some o) → (∃ L es ep t, Bag P w s.heap S L es ep t ∧ Had ks i L) →
      (∀ s2 L es ep t, Moved (S :: wr) G s s2 → Bag P w s2.heap S L es ep t → Had ks n L → (∀ b o, g0.get? b = some o → s2.heap.get? b = some o) → R (.ok (.ret .none)) s2) → codeAny (model P w) A (.builtin "set.update.loop" ⟨[.ref S, .ref I], []⟩) R s := by
  have offW : S ∉ wr := fun z => off (W.sub _ z)
  have up : ∀ b ∈ wr, b ∈ S :: wr := fun b z => List.mem_cons_of_mem _ z
  have old : ∀ {s1 s2 : Shared}, Moved wr G s1 s2 → (∀ b o, g0.get? b = some o → s1.heap.get? b = some o) → ∀ b o, g0.get? b = some o → s2.heap.get? b = some o := fun mv k b o e =>
    mv.heap b o (fun z => by rw [nW b z] at e; cases e) (k b o e)
  intro m
  induction m with
  | zero =>
    intro i s hm hi st k0 ⟨L, es, ep, t, b, pm⟩ done
    obtain rfl : i = n := by omega
    refine codeAny_builtin F.entry_set_update_loop ?_
    rw [Around.under_plainId F.plain_set_update_loop _]
    show wpAny _ A.in1 (pyNext (.ref I) >>= _) _ _ s
    refine wpAny_bind (W.done s _ _ st fun s2 mv => ?_); show wpAny _ A.in1 (ret Value.none) _ _ s2
    have k2 := old mv k0
    exact wpAny_pure (done s2 L es ep t (mv.mono up) (b.stay (fun o e => mv.heap S o offW e) fun q hq => isT_keep (tp q (List.mem_of_mem_take (pm.sub q hq))) k2) pm k2)
  | succ m ih =>
    intro i s hm hi st k0 ⟨L, es, ep, t, b, pm⟩ done
    have lt : i < n := by omega
    refine codeAny_builtin F.entry_set_update_loop ?_
    rw [Around.under_plainId F.plain_set_update_loop _]
    show wpAny _ A.in1 (pyNext (.ref I) >>= _) _ _ s
    refine wpAny_bind (W.item i s _ _ lt st fun v s2 pv st2 mv => ?_)
    obtain ⟨p, hp, rfl⟩ := val i v pv
    have k2 := old mv k0
    have inK : ∀ q ∈ L, q ∈ ks := fun q hq => List.mem_of_mem_take (pm.sub q hq)
    have b2 : Bag P w s2.heap S L es ep t := b.stay (fun o e => mv.heap S o offW e) fun q hq => isT_keep (tp q (inK q hq)) k2
    have hx : IsT P w s2.heap p.2 p.1 := isT_keep (tp p (List.mem_of_getElem? hp)) k2
    have ll : p.2 ∉ L.map (fun q => q.2) → L.length + 1 ≤ 76 := fun z => by
      have : (p.2 :: L.map fun q => q.2).length ≤ D.length := sub_lenD (List.nodup_cons.mpr ⟨z, b.un⟩) fun y hy => by
        rcases List.mem_cons.mp hy with rfl | hy
        · exact un p (List.mem_of_getElem? hp)
        · obtain ⟨q, hq, rfl⟩ := List.mem_map.mp hy
          exact un q (inK q hq)
      rw [List.length_cons, List.length_map] at this
      omega
    show wpAny _ A.in1 (holding [Value.ref p.1] (setAdd S (.ref p.1)) >>= _) _ _ s2
    refine wpAny_bind (wpAny_holding ?_)
    unfold setAdd
    refine wpAny_holding (wpAny_bind (wpAny_pyHash_tuple hu hx (bag_addB (s := { s2 with toks := s2.toks + (p.2.length + 1) }) b2 hx hu ll (fun there => ?_) fun new g L2 es2 ep2 t2 same b3 pm2 => ?_)))
    · have same : Heap.SameBut S s2.heap s2.heap := ⟨rfl, fun _ _ => rfl⟩
      have k3 : ∀ b o, g0.get? b = some o → s2.heap.get? b = some o := fun b o e => (same.2 b fun z => by rw [z, nS] at e; cases e).trans (k2 b o e)
      refine wpAny_pure ⟨plainId_quiet F.plain_set_update_loop _, ih (i + 1) _ (by omega) lt (W.frame _ s2 _ _ st2 (Nat.le_add_right _ _) fun b hb o e => ?_) k3 ⟨L, es, ep, t, b2, pm.same hp there⟩ fun s3 L3 es3 ep3 t3 mv3 b4 pm4 k4 => ?_⟩
      · rw [same.2 b fun (z : b = S) => off (z ▸ hb)]; exact e
      · refine done s3 L3 es3 ep3 t3 (Moved.trans W.gtrans ((mv.mono up).then_heap (Nat.le_add_right _ _) fun b o hb e => ?_) mv3) b4 pm4 k4
        rw [same.2 b fun (z : b = S) => hb (z ▸ List.mem_cons_self)]; exact e
    · have same : Heap.SameBut S s2.heap g := same
      have k3 : ∀ b o, g0.get? b = some o → g.get? b = some o := fun b o e => (same.2 b fun z => by rw [z, nS] at e; cases e).trans (k2 b o e)
      refine wpAny_pure ⟨plainId_quiet F.plain_set_update_loop _, ih (i + 1) _ (by omega) lt (W.frame _ s2 _ _ st2 (Nat.le_add_right _ _) fun b hb o e => ?_) k3 ⟨L2, es2, ep2, t2, b3, pm.more hp pm2⟩ fun s3 L3 es3 ep3 t3 mv3 b4 pm4 k4 => ?_⟩
      · rw [same.2 b fun (z : b = S) => off (z ▸ hb)]; exact e
      · refine done s3 L3 es3 ep3 t3 (Moved.trans W.gtrans ((mv.mono up).then_heap (Nat.le_add_right _ _) fun b o hb e => ?_) mv3) b4 pm4 k4
        rw [same.2 b fun (z : b = S) => hb (z ▸ List.mem_cons_self)]; exact e
end
end Vs
end
section
namespace Vs
open PySem PySem.Spec PyProof.Rows L2
section
variable {P : Program} {w : World} {A : Around} {E : Value → Shared → Prop} {s : Shared}
/-- set(xs) of tuples of ints -/
theorem call_bagB {l : Addr} {items : Array Value} (ks : List (Addr × List Int)) (D : List (List Int)) {Q : Value → Shared → Prop} (hh : A.handled = none) (hl : s.heap.IsList l items) (hit : items.toList = ks.map fun q => Value.ref q.1) (tp : ∀ q ∈ ks, IsT P w s.heap q.2 q.1) (few : D.length ≤ 76)
    (un : ∀ q ∈ ks, q.2 ∈ D) (hu : A.units + 3 < cLine) (q : ∀ (g : Heap) (tk : Nat) L es ep t, Bag P w g s.heap.objs.size L es ep t → Had ks ks.length L → (∀ b o, s.heap.get? b = some o → g.get? b = some o) → Q (.ref s.heap.objs.size) { s with heap := g, toks := tk }) :
    wpAny (model P w) A (call (.type "set") [.ref l]) Q E s := by
  have isz : items.size = ks.length := by rw [← Array.length_toList, hit, List.length_map]
  obtain ⟨c, tl, f0⟩ := F.called_set.mro
  have f1 := F.called_set.made; have f2 := F.called_set.sub; have f3 := F.called_set.notType; have f4 := F.called_set.canCreate; have f5 := F.typeCall_set_1 (.ref l)
  refine wpAny_call (codeAny_of_tree ?_); show wpAny _ _ (callAny (.type "set") _) _ _ _
  refine wpAny_pure ⟨Code.quiet_builtin _ (by decide +kernel), codeAny_builtin F.entry_type_call ?_⟩
  rw [Around.under_plain (weight_type_call_type "set" [.ref l] []) rfl]
  repeat (any_goals (first | assumption | wp_step))
  refine codeAny_mono (code_set_led1 (.ref l) (E := E) (Q₁ := fun obj s₁ => obj = .ref s.heap.objs.size ∧ s₁ = { s with heap := s.heap.push (set0 w) }) ⟨rfl, rfl⟩) fun r s1 hr => ?_
  cases r with
  | error e => exact hr
  | ok fl =>
    cases fl with
    | ret obj =>
      obtain ⟨rfl, rfl⟩ := hr
      have hS : (s.heap.push (set0 w)).get? s.heap.objs.size = some (set0 w) := Heap.get?_push_size _ rfl
      have hT : Shared.TypeIs { s with heap := s.heap.push (set0 w) } (.ref s.heap.objs.size) "set" := ⟨_, hS, rfl⟩
      have i1 := F.called_set.init.lookup; have i2 := F.called_set.init.bind (.ref s.heap.objs.size)
      repeat (any_goals (first | assumption | wp_step))
      refine codeAny_mono (codeAny_call_builtin (R := wants (fun r s2 => r = .none ∧ ∃ g tk L es ep t, s2 = { s with heap := g, toks := tk } ∧ Bag P w g s.heap.objs.size L es ep t ∧ Had ks ks.length L ∧ (∀ b o, s.heap.get? b = some o → g.get? b = some o)) E) F.called_set.init.plain F.entry_set_init (check_set_init_1 hT ?_)) fun r2 s2 hr2 => ?_
      · obtain ⟨⟨lc, ld, la, ls⟩, hol, e1, nl, e2⟩ := hl
        simp only at e1 e2
        subst e1; subst e2
        have hol2 : (s.heap.push (set0 w)).get? l = some { cls := .type "list", dict := ld, data := .seq items nl, slots := ls } := Heap.get?_push_of_some _ hol
        have u1 := F.sub_list_set; have u2 := F.sub_list_frozenset; have u3 : (Value.type "list" == Value.type "dict") = false := by decide
        have hl1 : (s.heap.push (set0 w)).IsList l items := ⟨_, hol2, rfl, nl, rfl⟩
        have lt := Heap.lt_size hol
        have hh3 : A.in1.in1.in1.handled = none := by simp [hh]
        unfold Builtin.«set.__init__» noKeywords Builtin.Frozenset.updateFrom
        generalize hPI : pyIter = PI
        wp_walk
        subst hPI
        refine wpAny_pyIter_list hl1 (wpAny_bind (wpAny_runValue ?_))
        have z1 : (s.heap.push (set0 w)).objs.size = s.heap.objs.size + 1 := Heap.size_push ..
        have neI : l ≠ (s.heap.push (set0 w)).objs.size := by rw [z1]; exact Nat.ne_of_lt (Nat.lt_succ_of_lt lt)
        have offS : s.heap.objs.size ∉ [(s.heap.push (set0 w)).objs.size, l] := by
          rw [z1]; simp only [List.mem_cons, List.not_mem_nil, or_false, not_or]; exact ⟨Nat.ne_of_lt (Nat.lt_succ_self _), Nat.ne_of_gt lt⟩
        have val : ∀ (i : Nat) (v : Value), items[i]? = some v → ∃ p, ks[i]? = some p ∧ v = .ref p.1 := fun i v hv => by
          rw [← Array.getElem?_toList, hit, List.getElem?_map, Option.map_eq_some_iff] at hv
          obtain ⟨p, h1, h2⟩ := hv
          exact ⟨p, h1, h2.symm⟩
        have no : ∀ b, s.heap.objs.size ≤ b → s.heap.get? b = none := fun b hb => Heap.get?_none_of_le hb
        refine bag_loopB ((Walks.list hh3 _ l neI items).toS) s.heap.objs.size offS ks D isz few un val s.heap tp (no _ (Nat.le_refl _)) (fun b hb => no b (by rw [List.mem_singleton.mp hb, z1]; exact Nat.le_succ _)) hu (items.size - 0) 0 _ (by omega) (Nat.zero_le _)
          ⟨⟨_, Heap.get?_push_size _ rfl, rfl, rfl⟩, hl1.push _⟩ (fun b o e => Heap.get?_push_of_some _ (Heap.get?_push_of_some _ e)) ⟨[], #[], 0, _, bag0 (Heap.get?_push_of_some _ hS), Had.none ks⟩ fun s3 L es ep t mv b pm k => ?_
        obtain ⟨g, gg, dd, tk, oo⟩ := s3
        have eg : gg = s.gens := mv.gens
        have ed : dd = s.drawn := mv.drawn
        have eo : oo = s.os := mv.os
        subst eg; subst ed; subst eo
        rw [isz] at pm
        show wpAny _ _ _ _ _ _
        refine wpAny_pure ?_; show wpAny _ _ (ret Value.none) _ _ _
        exact wpAny_pure ⟨rfl, g, tk, L, es, ep, t, rfl, b, pm, k⟩
      · cases r2 with
        | error e => exact hr2
        | ok fl2 =>
          cases fl2 with
          | ret r =>
            obtain ⟨rfl, g, tk, L, es, ep, t, rfl, b, pm, k⟩ := hr2
            repeat (any_goals (first | assumption | wp_step))
            exact q _ _ _ _ _ _ b pm k
          | _ => exact hr2.elim
    | _ => exact hr.elim
end
/-! ## sorted(set(xs)), pairs of ints -/
def uqP (ps : List (Int × Int)) : List (Int × Int) := ps.foldl (fun acc p => if p ∈ acc then acc else acc ++ [p]) []
theorem uq_mem : ∀ (ps acc : List (Int × Int)) (q : Int × Int), q ∈ ps.foldl (fun acc p => if p ∈ acc then acc else acc ++ [p]) acc ↔ q ∈ acc ∨ q ∈ ps
  | [], acc, q => by simp
  | p :: ps, acc, q => by
    rw [List.foldl_cons, uq_mem ps]
    split
    · rename_i h
      constructor
      · rintro (z | z)
        · exact .inl z
        · exact .inr (List.mem_cons_of_mem _ z)
      · rintro (z | z)
        · exact .inl z
        · rcases List.mem_cons.mp z with rfl | z
          · exact .inl h
          · exact .inr z
    · simp [or_assoc]
theorem uq_nd : ∀ (ps acc : List (Int × Int)), acc.Nodup → (ps.foldl (fun acc p => if p ∈ acc then acc else acc ++ [p]) acc).Nodup
  | [], acc, h => h
  | p :: ps, acc, h => by
    rw [List.foldl_cons]
    refine uq_nd ps _ ?_
    split
    · exact h
    · rename_i n
      exact List.nodup_append.mpr ⟨h, by simp, fun a ha b hb e => by rw [List.mem_singleton.mp hb] at e; exact n (e ▸ ha)⟩
theorem mem_uqP {ps : List (Int × Int)} {q : Int × Int} : q ∈ uqP ps ↔ q ∈ ps := by unfold uqP; rw [uq_mem]; simp
theorem uqP_nd (ps : List (Int × Int)) : (uqP ps).Nodup := uq_nd ps [] List.nodup_nil
def tSortSet (K : PySem.W.Frag) (ta : TE) : TE := fun σ H Q => ta σ H fun x H1 => ∃ (l : Addr) (ks : List (Addr × Int × Int)), x = .ref l ∧ SqL K H1 l (ks.map fun q => V.ref q.1) ∧ (∀ q ∈ ks, H1 q.1 = some (.tup [.int q.2.1, .int q.2.2])) ∧ (uqP (ks.map fun q => q.2)).length ≤ 76 ∧
  ∀ (p : Addr) (ys : List V), H1 p = none → (∀ v ∈ ys, ∃ q ∈ ks, v = V.ref q.1) → ys.map (pairK H1) = sortP (uqP (ks.map fun q => q.2)) → Q (.ref p) (upd H1 p (.lst ys))
theorem pe_sortSet {X : Cx} {a : Expr} {ta : TE} {p1 p2 q1 q2 : Pos} (g1 : Gl X "sorted") (m1 : X.mg "sorted" = none) (g2 : Gl X "set") (m2 : X.mg "set" = none) (pa : PE X a ta) (calm : X.calm = true) (hu : X.A.units + 64 < cLine) (st : starEach [a] X.env = (false, eval a X.env) :: starEach [] X.env := by rfl) :
    PE X (.Call (.Name "sorted" p1) [.Call (.Name "set" p2) [a] [] q1] [] q2) (tSortSet X.K ta) := by
  constructor
  intro pins s σ H Q I h
  refine Call_ (ld_blt I g1 m1 boot_sorted ?_)
  apply PyProof.Rows.callWith_builtin1 (PyProof.Rows.args_cons ?_ rfl) rfl rfl
  refine Call_ (ld_blt I g2 m2 boot_set ?_)
  apply PyProof.Rows.callWith_type1 (PyProof.Rows.args_cons (thn (pa.run pins s σ H _ I h) ?_) st) st rfl
  rintro v s1 ⟨x, H1, J, rx, l, ks, e, hq, tp, few, q⟩
  subst e
  cases rx
  apply PyProof.Rows.args_nil
  obtain ⟨its, rv, pl, hz⟩ := J.list hq
  have rv2 := rv
  let kk : List (Addr × List Int) := ks.map fun q => (q.1, [q.2.1, q.2.2])
  have ekk : (ks.map fun q => V.ref q.1) = kk.map fun q => V.ref q.1 := by rw [List.map_map]; rfl
  rw [ekk] at rv2
  have tpk : ∀ z ∈ kk, IsT X.prog X.w s1.heap z.2 z.1 := fun z hz => by
    obtain ⟨q, hq, rfl⟩ := List.mem_map.mp hz
    exact J.isT (SqT.of (tp q hq))
  refine call_bagB (P := X.prog) (w := X.w) kk ((uqP (ks.map fun q => q.2)).map fun p => [p.1, p.2]) (J.ok.hd calm) pl.isList (by simpa using refs_of_vals rv2) tpk (by rw [List.length_map]; exact few)
    (fun z hz => by
      obtain ⟨q, hq, rfl⟩ := List.mem_map.mp hz
      exact List.mem_map.mpr ⟨q.2, mem_uqP.mpr (List.mem_map.mpr ⟨q, hq, rfl⟩), rfl⟩) (by omega) fun g tk L es ep t b hd kp => ?_
  apply PyProof.Rows.args_nil
  have J2 : Inv X pins σ H1 { s1 with heap := g, toks := tk } := J.kept kp
  generalize hs2 : ({ s1 with heap := g, toks := tk } : Shared) = s2 at J2 ⊢
  have hg2 : s2.heap = g := by rw [← hs2]
  rw [← hg2] at b
  clear kp
  obtain ⟨o, ho, hex, hdt⟩ := b.at_
  have fits : t.fits es.size = true := Bag.fits (s := s2) b
  have lk : ∀ q ∈ L, ∃ z ∈ ks, q.1 = z.1 ∧ q.2 = [z.2.1, z.2.2] := fun q hq => by
    have h1 := List.mem_of_mem_take (hd.sub q hq)
    obtain ⟨z, hz, e⟩ := List.mem_map.mp h1
    exact ⟨z, hz, by rw [← e], by rw [← e]⟩
  have sz := row_sz b.row
  have lz : L.length ≤ 76 := by
    have : (L.map fun q => q.2).length ≤ ((uqP (ks.map fun q => q.2)).map fun p => [p.1, p.2]).length := sub_lenD b.un fun y hy => by
      obtain ⟨q, hq, rfl⟩ := List.mem_map.mp hy
      obtain ⟨z, hz, _, e⟩ := lk q hq
      exact List.mem_map.mpr ⟨z.2, mem_uqP.mpr (List.mem_map.mpr ⟨z, hz, rfl⟩), e.symm⟩
    rw [List.length_map, List.length_map] at this
    omega
  refine Calls.call_function_entry PyProof.Rows.kind_sorted PyProof.Rows.plain_sorted PyProof.Rows.entry_sorted (PyProof.Rows.args_sorted1 _) ?_
  unfold Builtin.«sorted»
  refine wpAny_bind (m := checkCount "sorted" 1 1 _) (wpAny_pure ?_)
  refine wpAny_bind (collect_set (A := X.A.in1) (J.ok.hd calm) ⟨o, ho, hex.1, hdt⟩ fits (by unfold scanBound; omega) b.tb.ris b.ldd fun s3 vs k1 hz3 g3 o3 pm => ?_)
  have hes : es.toList.map (·.2) = L.map fun q => Value.ref q.1 := by
    rw [b.row]
    unfold rowsOf
    rw [List.map_map]
    rfl
  rw [hes] at pm
  have hlen : vs.length = L.length := by rw [pm.length_eq, List.length_map]
  have h16 : vs.length ≤ sizeLine := by rw [hlen, sizeLine_eq]; omega
  have pk : ∀ q ∈ L, pairK H1 (V.ref q.1) = (q.2.getD 0 0, q.2.getD 1 0) := fun q hq => by
    obtain ⟨z, hz, e1, e2⟩ := lk q hq
    rw [e1, pairK_at (tp z hz), e2]
    rfl
  have hP : ∀ v ∈ vs, Srt.IsPair s3.heap v (pairK H1 (backV v)).1 (pairK H1 (backV v)).2 := by
    intro v hv
    obtain ⟨q, hq, rfl⟩ := List.mem_map.mp (pm.mem_iff.mp hv)
    obtain ⟨z, hz, e1, e2⟩ := lk q hq
    have e := tp z hz
    rw [← e1] at e
    have e3 : pairK H1 (backV (Value.ref q.1)) = (z.2.1, z.2.2) := pairK_at e
    rw [e3]
    obtain ⟨_, its2, r2, o2, ho2, hc2, n2, hd2⟩ := J2.hok _ _ e
    obtain ⟨u1, u2, rfl, ri, rj⟩ := vals2 r2
    obtain ⟨t1, rfl⟩ := ri
    obtain ⟨t2, rfl⟩ := rj
    exact ⟨q.1, o2, t1, t2, n2, rfl, k1 _ _ ho2, hc2, hd2⟩
  refine wpAny_bind (wpAny_newList ?_ h16)
  have hoL : (s3.heap.push (seqObj "list" vs.toArray 0)).get? s3.heap.objs.size = some (seqObj "list" vs.toArray 0) := Heap.get?_push_size _ rfl
  refine wpAny_bind (wpAny_holding (wpAny_call_entry PyProof.Rows.slot_list_sort ⟨_, hoL, rfl⟩ PyProof.Rows.entry_list_sort
    (SrtO.list_sort_ord (s := { s3 with heap := s3.heap.push (seqObj "list" vs.toArray 0) }) (SrtO.swo_lex fun u => pairK H1 (backV u)) hoL h16 (fun h2 => ?_) fun out hs' hb => ⟨_, rfl, ?_⟩)
    (PyProof.Rows.args_list_sort _)))
  · refine SrtO.pairs_sortableO (by omega) (fun v hm => (hP v hm).keeps fun b o e _ => Heap.get?_push_of_some _ e) fun o e => ?_
    have e' : some o = some (seqObj "list" vs.toArray 0) := e.symm.trans hoL
    cases e'
    intro c
    exact absurd (Value.type.inj c) (by decide)
  obtain ⟨e', he'⟩ := PyProof.Rows.sortedHeap_at (vs := vs) (out := out.toArray) hoL
  have h3 : ∀ u ∈ out, ∃ a, u = Value.ref a := fun u hu => by
    obtain ⟨q, _, rfl⟩ := List.mem_map.mp (pm.mem_iff.mp (hb.perm.mem_iff.mp hu))
    exact ⟨q.1, rfl⟩
  have po : (out.map backV).Perm (L.map fun q => V.ref q.1) := by
    have h := (hb.perm.trans pm).map backV
    rw [List.map_map] at h
    exact h
  have hlen2 : (out.map backV).length ≤ sizeLine := by
    rw [po.length_eq, List.length_map, sizeLine_eq]; omega
  have hn : H1 s3.heap.objs.size = none := J2.hok.fresh hz3
  have hsrt : SrtO.Srtd (ltP (pairK H1)) (out.map backV) := SrtO.srtd_map hs'
  have keep : ∀ b u, s2.heap.get? b = some u → (sortedHeap (s3.heap.push (seqObj "list" vs.toArray 0)) s3.heap.objs.size vs out.toArray).get? b = some u := fun b u e => by
    have e := k1 b u e
    have hbl : b < s3.heap.objs.size := Heap.lt_size e
    rw [PyProof.Rows.sortedHeap_old (Nat.ne_of_lt hbl) (by rw [size_push']; exact Nat.lt_succ_of_lt hbl)]
    exact Heap.get?_push_of_some _ e
  have J3 : Inv X pins σ (upd H1 s3.heap.objs.size (.lst (out.map backV))) { s2 with heap := sortedHeap (s3.heap.push (seqObj "list" vs.toArray 0)) s3.heap.objs.size vs out.toArray, gens := s3.gens, drawn := s3.drawn, toks := s3.toks } :=
    J2.call (ch := []) (Un.laid keep hz3 hn) (J2.hok.laid keep hz3 ⟨hlen2, out, e', vals_back h3, he'⟩) (by rw [g3]; exact J2.bare) (fun _ z => nomatch z)
  have ys_of : (out.map backV).map (pairK H1) = sortP (uqP (ks.map fun q => q.2)) := by
    have pairsL : (L.map fun q => pairK H1 (V.ref q.1)).Perm (uqP (ks.map fun q => q.2)) := by
      have n1 : (L.map fun q => pairK H1 (V.ref q.1)).Nodup := by
        refine List.pairwise_map.mpr (List.Pairwise.imp_of_mem (fun {q r} hq hr hne e => hne ?_) (List.pairwise_map.mp b.un))
        obtain ⟨z, hz, e1, e2⟩ := lk q hq
        obtain ⟨y, hy, f1, f2⟩ := lk r hr
        rw [e1, f1, pairK_at (tp z hz), pairK_at (tp y hy)] at e
        rw [e2, f2]
        injection e with a1 a2
        rw [a1, a2]
      refine (List.perm_ext_iff_of_nodup n1 (uqP_nd _)).mpr fun p => ?_
      rw [mem_uqP]
      constructor
      · intro hp
        obtain ⟨q, hq, rfl⟩ := List.mem_map.mp hp
        obtain ⟨z, hz, e1, e2⟩ := lk q hq
        rw [e1, pairK_at (tp z hz)]
        exact List.mem_map.mpr ⟨z, hz, rfl⟩
      · intro hp
        obtain ⟨z, hz, rfl⟩ := List.mem_map.mp hp
        have mz : (z.1, [z.2.1, z.2.2]) ∈ kk.take kk.length := by rw [List.take_length]; exact List.mem_map.mpr ⟨z, hz, rfl⟩
        have := hd.all _ mz
        obtain ⟨q, hq, e⟩ := List.mem_map.mp this
        refine List.mem_map.mpr ⟨q, hq, ?_⟩
        rw [pk q hq, e]
        rfl
    have po2 := po.map (pairK H1)
    have e9 : (L.map fun q => V.ref q.1).map (pairK H1) = L.map fun q => pairK H1 (V.ref q.1) := by rw [List.map_map]; rfl
    rw [e9] at po2
    refine rise_uniq leP_anti (po2.trans (pairsL.trans (sortP_perm _).symm)) ?_ (sortP_pw _)
    refine List.pairwise_map.mpr (hsrt.imp fun {a b} h => ?_)
    have h : SrtO.lexB (pairK H1 b) (pairK H1 a) = false := h
    unfold SrtO.lexB at h
    unfold leP
    simp only [Bool.or_eq_true, Bool.and_eq_true, decide_eq_true_eq]
    split at h
    · have := of_decide_eq_false h
      omega
    · have := of_decide_eq_false h
      omega
  have e3 : ({ s3 with heap := sortedHeap (s3.heap.push (seqObj "list" vs.toArray 0)) s3.heap.objs.size vs out.toArray } : Shared) = { s2 with heap := sortedHeap (s3.heap.push (seqObj "list" vs.toArray 0)) s3.heap.objs.size vs out.toArray, gens := s3.gens, drawn := s3.drawn, toks := s3.toks } := by
    cases s3
    cases s2
    cases o3
    rfl
  refine wpAny_pure ⟨_, rfl, .ref s3.heap.objs.size, upd H1 s3.heap.objs.size (.lst (out.map backV)), ?_, rfl, q _ _ hn (fun v hv => ?_) ys_of⟩
  · rw [← e3] at J3
    exact J3
  · obtain ⟨r, hr, rfl⟩ := List.mem_map.mp (po.mem_iff.mp hv)
    obtain ⟨z, hz, e1, _⟩ := lk r hr
    exact ⟨z, hz, by rw [e1]⟩
end Vs
end
section
namespace Vs
open PySem PySem.Spec PyProof.Rows L2
def oSortSet : R → M R := fun r => match r.sq?.bind prs? with
  | some ps => if (uqP ps).length ≤ 76 then .ok (.l true ((sortP (uqP ps)).map prD)) else .error .stuck
  | none => .error .stuck
variable {w : Wd} {W : WX}
theorem prs_keys2 {H G : Hp} (s : Same G H) : ∀ {ps : List (Int × Int)} {vs : List V}, RpL G vs (ps.map prD) → ∃ ks : List (Addr × Int × Int), vs = ks.map (fun q => V.ref q.1) ∧ ks.map (fun q => q.2) = ps ∧ ∀ q ∈ ks, G q.1 = some (.tup [.int q.2.1, .int q.2.2])
  | [], _, h => by
    cases h
    exact ⟨[], rfl, rfl, fun q hq => nomatch hq⟩
  | p :: ps, _, h => by
    cases h with
    | cons h1 h2 =>
      obtain ⟨t, rfl, ht⟩ := prV_of h1
      obtain ⟨ks, e1, e2, e3⟩ := prs_keys2 s h2
      refine ⟨(t, p) :: ks, by rw [e1]; rfl, by rw [List.map_cons, e2], fun q hq => ?_⟩
      rcases List.mem_cons.mp hq with rfl | hq
      · exact ht
      · exact e3 q hq
theorem xe_sortSet {X : Cx} {k : Nat} {a : Expr} {fa : Sl → M R} {p1 p2 q1 q2 : Pos} (ok : w.Ok) (hK : X.K = w.K) (hr : Room k X.A) (hc : X.calm = true) (hg : Gl X "sorted") (hm : X.mg "sorted" = none) (hg2 : Gl X "set") (hm2 : X.mg "set" = none) (ha : PE X a (rdE w W fa))
    (na : starEach [a] X.env = (false, eval a X.env) :: starEach [] X.env := by rfl) : PE X (.Call (.Name "sorted" p1) [.Call (.Name "set" p2) [a] [] q1] [] q2) (rdE w W (eUn oSortSet fa)) := by
  refine PEi (pe_sortSet hg hm hg2 hm2 ha hc (room64 hr) na) fun σ H Q h => ?_
  obtain ⟨H0, B, env, G, g, x, h⟩ := h
  refine rdE_bind ok g x h fun r v H1 G1 g1 rr _ g01 x1 h1 => ?_
  unfold oSortSet at h1
  split at h1
  · rename_i ps e1
    split at h1
    · rename_i c
      rw [Option.bind_eq_some_iff] at e1
      obtain ⟨xs, e2, e3⟩ := e1
      rw [prs_eq e3] at e2
      obtain ⟨l, vs, rfl, hq, hr⟩ := rr.sq g1.s e2
      obtain ⟨ks, f1, f2, f3⟩ := prs_keys2 g1.s hr
      rw [f1] at hq
      refine ⟨l, ks, rfl, by rw [hK]; exact hq, fun q hq => g1.s _ _ (f3 q hq), by rw [f2]; exact c, fun p ys hn hy e => ?_⟩
      have hz : RpL G1 ys ((ys.map (pairK H1)).map prD) := RpL.ofPairs fun v hv => by
        obtain ⟨q, hq, rfl⟩ := hy v hv
        exact ⟨q.1, _, _, rfl, g1.s _ _ (f3 q hq), f3 q hq⟩
      rw [e, f2] at hz
      exact h1 (.ref p) _ G1 (Grow.own g1.s hn) ⟨p, ys, rfl, g1.s.free hn, upd_same, hz⟩ fun _ q e => by cases e; exact hn
    · exact h1.elim
  · exact h1.elim
end Vs
end
section
namespace Vs
open PySem PySem.Spec PyProof.Rows L2
variable {w : Wd} {W : WX}
/-! ## a dict apart, each value a list of its own -/
theorem FlR.len2 {α : Type} {H G : Hp} {vf : List (α × V)} {fs : List (α × List PD)} (h : FlR H G vf fs) : vf.length = fs.length := by
  induction h with
  | nil => rfl
  | cons _ _ _ _ _ ih => simp [ih]
theorem FlR.val {α : Type} [DecidableEq α] {H G : Hp} (k : α) {vf : List (α × V)} {fs : List (α × List PD)} (h : FlR H G vf fs) :
    (valG fs k = none ∧ valV vf k = none) ∨ ∃ xs q vs, valG fs k = some xs ∧ valV vf k = some (.ref q) ∧ (k, V.ref q) ∈ vf ∧ G q = none ∧ H q = some (.lst vs) ∧ RpL G vs xs := by
  induction h with
  | nil => exact .inl ⟨rfl, rfl⟩
  | @cons f q vs xs r s a b c d _ ih =>
    by_cases e : f = k
    · subst e
      exact .inr ⟨xs, q, vs, by simp [valG], by simp [valV], List.mem_cons_self, a, b, c⟩
    · have e1 : valG ((f, xs) :: s) k = valG s k := by simp [valG, List.find?_cons, e]
      have e2 : valV ((f, V.ref q) :: r) k = valV r k := by simp [valV, List.find?_cons, e]
      rw [e1, e2]
      rcases ih with h | ⟨xs', q', vs', h1, h2, h3, h4⟩
      · exact .inl h
      · exact .inr ⟨xs', q', vs', h1, h2, List.mem_cons_of_mem _ h3, h4⟩
theorem FlR.snoc {α : Type} {H G : Hp} {k : α} {q : Addr} {vs : List V} {xs : List PD} (nq : G q = none) (hq : H q = some (.lst vs)) (hr : RpL G vs xs) {vf : List (α × V)} {fs : List (α × List PD)} (h : FlR H G vf fs) :
    (∀ g, (g, V.ref q) ∉ vf) → FlR H G (vf ++ [(k, .ref q)]) (fs ++ [(k, xs)]) := by
  induction h with
  | nil => intro _; exact .cons nq hq hr (fun g m => nomatch m) .nil
  | @cons f p us ys r s a b c d t ih =>
    intro hn
    refine .cons a b c (fun g m => ?_) (ih fun g m => hn g (List.mem_cons_of_mem _ m))
    rcases List.mem_append.mp m with m | m
    · exact d g m
    · have e := List.mem_singleton.mp m
      cases e
      exact hn f List.mem_cons_self
def dGetDO : R → R → Option (Option (List PD))
  | .D kvs, .d y => (keyA y).map (valG kvs)
  | _, _ => none
theorem dGetDO_ok {H G : Hp} {x y : V} {rd ry : R} {o : Option (List PD)} (rrd : Rr w H G x rd) (rry : Rr w H G y ry) (h : dGetDO rd ry = some o) :
    ∃ a o', x = .ref a ∧ IsD H a ∧ DGet H a y o' ∧ ((o = none ∧ o' = none) ∨ ∃ xs q vs, o = some xs ∧ o' = some (.ref q) ∧ foot H rd x q ∧ G q = none ∧ H q = some (.lst vs) ∧ RpL G vs xs) := by
  unfold dGetDO at h
  split at h
  · rename_i kvs y'
    obtain ⟨k, hk, e⟩ := Option.map_eq_some_iff.mp h
    obtain ⟨p, kv, rfl, _, hp, fl⟩ := rrd
    obtain rfl := keyA_V hk rry
    refine ⟨p, valV kv k, rfl, .inl ⟨kv, .inl hp⟩, DGet.k hp, ?_⟩
    rcases fl.val k with ⟨a, b⟩ | ⟨xs, q, vs, a, b, c, d⟩
    · exact .inl ⟨by rw [← e, a], b⟩
    · exact .inr ⟨xs, q, vs, by rw [← e, a], b, .inr ⟨p, kv, k, rfl, hp, c⟩, d⟩
  · cases h
def dGetD : Op := fun d y => match dGetDO d y with
  | some (some xs) => .ok (.l false xs)
  | _ => .error .stuck
def dInD (neg : Bool) : Op := fun y d => match dGetDO d y with
  | some o => .ok (.d (.bool (xor neg o.isSome)))
  | none => .error .stuck
theorem dGetD_tame : Tame dGetD := fun a b x i h => by
  unfold dGetD at h; split at h <;> cases h
theorem dInD_tame {neg : Bool} : Tame (dInD neg) := fun a b x i h => by
  unfold dInD at h; split at h <;> cases h
section
variable {X : Cx} {a b c e i o : Expr} {es : List Expr} {pos p : Pos} {fa fb fc fk fv : Sl → M R}
theorem dGetDS : OpS w (fun x y H Q => ∃ a v, x = V.ref a ∧ DGet H a y (some v) ∧ Q v H) dGetD := fun H G v1 v2 r1 r2 Q s rr1 rr2 h => by
  unfold dGetD at h
  split at h
  · rename_i x e
    obtain ⟨a, o', rfl, _, g, z⟩ := dGetDO_ok rr1 rr2 e
    rcases z with ⟨z, _⟩ | ⟨xs, q, vs, z1, rfl, _, n, hq, hr⟩
    · cases z
    · cases z1
      exact ⟨a, .ref q, rfl, g, h.done s ⟨q, vs, rfl, n, hq, hr⟩ (Fr.no rfl)⟩
  · exact h.elim
theorem dInDS : OpS w (fun y x H Q => ∃ a o, x = V.ref a ∧ DGet H a y o ∧ Q (.bl o.isSome) H) (dInD false) := fun H G v1 v2 r1 r2 Q s rr1 rr2 h => by
  unfold dInD at h
  split at h
  · rename_i x e
    obtain ⟨a, o', rfl, _, g, z⟩ := dGetDO_ok rr2 rr1 e
    refine ⟨a, o', rfl, g, h.done s ?_ (Fr.no rfl)⟩
    rcases z with ⟨z, rfl⟩ | ⟨xs, q, vs, z1, rfl, _⟩
    · subst z; exact .bl _
    · subst z1; exact .bl _
  · exact h.elim
theorem dNinDS : OpS w (fun y x H Q => ∃ a o, x = V.ref a ∧ DGet H a y o ∧ Q (.bl (!o.isSome)) H) (dInD true) := fun H G v1 v2 r1 r2 Q s rr1 rr2 h => by
  unfold dInD at h
  split at h
  · rename_i x e
    obtain ⟨a, o', rfl, _, g, z⟩ := dGetDO_ok rr2 rr1 e
    refine ⟨a, o', rfl, g, h.done s ?_ (Fr.no rfl)⟩
    rcases z with ⟨z, rfl⟩ | ⟨xs, q, vs, z1, rfl, _⟩
    · subst z; exact .bl _
    · subst z1; exact .bl _
  · exact h.elim
theorem xe_dgetD (ok : w.Ok) (hu : X.A.units + 1 < cLine) (ha : PE X o (rdE w W fa)) (hb : PE X i (rdE w W fb)) (hs : NoSl i := by exact fun _ _ => rfl) : PE X (.Subscript o i pos) (rdE w W (eOp dGetD fa fb)) :=
  PEi (pe_dget hu ha hb hs) (rd_op ok dGetDS dGetD_tame)
theorem xt_dinD (ok : w.Ok) (hu : X.A.units + 1 < cLine) (ha : PE X i (rdE w W fa)) (hb : PE X o (rdE w W fb)) (hm : behindInMarks .In o = false := by first | rfl | with_unfolding_all rfl) : PT X (.Compare i [.In] [o] pos) (rdT w W (tV (eOp (dInD false) fa fb))) :=
  PTi (pt_cmp (pc_din hu ha hb) hm) fun σ H Q h => rd_op ok dInDS dInD_tame σ H _ (rd_tV ok σ H Q h)
theorem xt_dninD (ok : w.Ok) (hu : X.A.units + 1 < cLine) (ha : PE X i (rdE w W fa)) (hb : PE X o (rdE w W fb)) (hm : behindInMarks .NotIn o = false := by first | rfl | with_unfolding_all rfl) : PT X (.Compare i [.NotIn] [o] pos) (rdT w W (tV (eOp (dInD true) fa fb))) :=
  PTi (pt_cmp (pc_dnotin hu ha hb) hm) fun σ H Q h => rd_op ok dNinDS dInD_tame σ H _ (rd_tV ok σ H Q h)
/-! ### x = {k: [..]} -/
def mkD1 (i : Nat) (k r : R) (env : Sl) : M Oc := match k, r with
  | .d y, .l true xs => (match keyA y with
    | some key => if i < env.length then .ok (.nx (env.set i (some (.D [(key, xs)])))) else .error .stuck
    | none => .error .stuck)
  | _, _ => .error .stuck
def sD1 (i : Nat) (fk fv : Sl → M R) : Sl → M Oc := fun env => (fk env).bind fun k => (fv env).bind fun r => mkD1 i k r env
/-- nothing of a slot stands at p -/
theorem Sim.away {H0 : Hp} {env : Sl} {σ : L2.St} {H G : Hp} {p : Addr} {o : HO} (x : Sim w H0 env σ H G) (nG : G p = none) (off : ∀ (j : Nat) (r : R) (u : V), env[j]? = some (some r) → σ[j]? = some (some u) → ∀ a, foot H r u a → a ≠ p) : Sim w H0 env σ (upd H p o) G := by
  have low : ∀ {j : Nat} {r : R} {u : V} {a : Addr}, env[j]? = some (some r) → σ[j]? = some (some u) → foot (upd H p o) r u a → foot H r u a := fun {j r u a} e s f => by
    obtain ⟨_, u', b, c, _⟩ := x.at_ j r e
    rw [s] at b
    cases b
    exact foot_upd (off j r u e s) c f
  refine ⟨x.len, fun j r e => ?_, fun j k r1 r2 u1 u2 a e1 e2 s1 s2 f1 f2 => x.inj j k r1 r2 u1 u2 a e1 e2 s1 s2 (low e1 s1 f1) (low e2 s2 f2)⟩
  obtain ⟨q, u, b, c, d⟩ := x.at_ j r e
  exact ⟨q, u, b, c.other nG (off j r u e b), fun y f => d y (low e b f)⟩
theorem xs_d1 {i : Nat} {x : Str} {pos' dp : Pos} {ek ev : Expr} (ok : w.Ok) (hN : X.N.Nodup) (hi : X.N[i]? = some x) (hx : Loc X.env.scope x) (hk : PE X ek (rdE w W fk)) (hv : PE X ev (rdE w W fv)) (hs : swapsWith (.Dict [some ek] [ev] dp) (some (.Name x pos')) pos.line X.env = pure false := by rfl) (hf : X.fn x = true ∨ X.env.scope.names.lookup x = some .local := by first | exact .inl rfl | exact .inr rfl | assumption) :
    PS X (.Assign [.Name x pos'] (.Dict [some ek] [ev] dp) pos) (rdS w W (sD1 i fk fv)) := by
  refine PSi (ps_set hN hi hx (pe_disp (pps_cons hk hv pps_nil) rfl rfl (by simp) (by simp)) hs hf) fun D σ H h => ?_
  obtain ⟨H0, B, env, G, g, x, h⟩ := h
  intro p hp
  have gO : Grow H G (upd H p (.dK [])) G := Grow.own g.s hp
  replace h : PostS w W H0 B G ((fk env).bind fun k => (fv env).bind fun r => mkD1 i k r env) D := h
  refine ⟨H0, B, env, G, g.trans gO, x.grow ok gO, ?_⟩
  cases e1 : fk env with
  | error er => rw [e1] at h; exact PostE.err.mpr (PostX.up (g.trans gO) h)
  | ok k =>
    rw [e1] at h
    intro v1 H3 G3 g3 rk frk
    clear frk
    replace h : PostS w W H0 B G ((fv env).bind fun r => mkD1 i k r env) D := h
    have x3 := (x.grow ok gO).grow ok g3
    refine ⟨H0, B, env, G3, (g.trans gO).trans g3, x3, ?_⟩
    cases e2 : fv env with
    | error er => rw [e2] at h; exact PostE.err.mpr (PostX.up ((g.trans gO).trans g3) h)
    | ok r =>
      rw [e2] at h
      intro v2 H4 G4 g4 rv fr
      replace h : PostS w W H0 B G (mkD1 i k r env) D := h
      unfold mkD1 at h
      split at h
      · rename_i y xs
        split at h
        · rename_i key ek
          split at h
          · rename_i hl
            obtain rfl := keyA_V ek rk
            obtain ⟨q, vs, rfl, nq, hq, hr⟩ := rv
            have h3q : H3 q = none := fr rfl q rfl
            have g2p : (upd H p (.dK [])) p = some (.dK []) := upd_same
            have h3p : H3 p = some (.dK []) := g3.h _ _ g2p
            have h4p : H4 p = some (.dK []) := g4.h _ _ h3p
            have n3p : G3 p = none := g3.a p _ rfl (g.s.free hp) g2p
            have n4p : G4 p = none := g4.a p _ rfl n3p h3p
            have n0p : H0 p = none := g.h.free hp
            have hne : q ≠ p := fun e => by rw [e, h3p] at h3q; cases h3q
            have gt := ((g.trans gO).trans g3).trans g4
            refine ⟨h4p, [(key, .ref q)], rfl, by simp, ?_⟩
            have gw : Grow H0 B (upd H4 p (.dK [(key, V.ref q)])) G4 := ⟨fun a u z => by rw [upd_ne (ne_of_none z n0p)]; exact gt.h a u z, gt.g, fun a u z => by rw [upd_ne (ne_of_none z n4p)]; exact gt.s a u z, gt.a⟩
            have offH : ∀ (j : Nat) (r : R) (u : V), env[j]? = some (some r) → σ[j]? = some (some u) → ∀ a, foot H4 r u a → ∃ o, H a = some o := fun j r u e1 s1 a f => by
              obtain ⟨_, u', b, c, _⟩ := x.at_ j r e1
              rw [s1] at b
              cases b
              have f2 := foot_same (w := w) (G := G) (fun p o _ z => g4.h _ _ (g3.h _ _ (gO.h _ _ z))) c f
              obtain ⟨_, o, ho, _⟩ := foot_has c f2
              exact ⟨o, ho⟩
            have x4 := (x3.grow ok g4).away (p := p) (o := .dK [(key, V.ref q)]) n4p fun j r u e1 s1 a f z => by
              obtain ⟨o, ho⟩ := offH j r u e1 s1 a f
              rw [z, hp] at ho
              cases ho
            have ft : ∀ a, foot (upd H4 p (.dK [(key, V.ref q)])) (.D [(key, xs)]) (.ref p) a → a = p ∨ a = q := fun a f => by
              rcases f with f | ⟨p', kv, k', e', h', m'⟩
              · cases f; exact .inl rfl
              · cases e'
                rw [upd_same] at h'
                cases h'
                have e := List.mem_singleton.mp m'
                cases e
                exact .inr rfl
            refine h _ _ G4 gw (g3.g.trans g4.g) (x4.set (r := .D [(key, xs)]) hl rfl ⟨p, [(key, .ref q)], rfl, n4p, upd_same, .cons nq (by rw [upd_ne hne]; exact hq) hr (fun g m => nomatch m) .nil⟩ (fun a f => ?_) fun j r' v' a hj e1 s1 f1 f2 => ?_)
            · rcases ft a f with e | e
              · rw [e]; exact n0p
              · rw [e]; exact ((g.trans gO).trans g3).h.free h3q
            · obtain ⟨_, u', b, c, _⟩ := x4.at_ j r' e1
              rw [s1] at b
              cases b
              have f3 : foot H4 r' v' a := by
                obtain ⟨_, u2, b2, c2, _⟩ := (x3.grow ok g4).at_ j r' e1
                rw [s1] at b2
                cases b2
                refine foot_upd (fun y fy z => ?_) c2 f2
                obtain ⟨o, ho⟩ := offH j r' v' e1 s1 y fy
                rw [z, hp] at ho
                cases ho
              obtain ⟨o, ho⟩ := offH j r' v' e1 s1 a f3
              rcases ft a f1 with e | e
              · rw [e, hp] at ho; cases ho
              · rw [e] at ho
                have := g3.h _ _ (gO.h _ _ ho)
                rw [h3q] at this
                cases this
          · exact (h []).elim
        · exact (h []).elim
      · exact (h []).elim
/-! ### d[k] = [..], k new -/
def putDS (i : Nat) (k : R) (xs : List PD) (env : Sl) : M Oc := match env[i]? with
  | some (some (.D kvs)) => (match k with
    | .d y => (match keyA y with
      | some key => if valG kvs key = none ∧ kvs.length < 900 then .ok (.nx (env.set i (some (.D (kvs ++ [(key, xs)]))))) else .error .stuck
      | none => .error .stuck)
    | _ => .error .stuck)
  | _ => .error .stuck
def isDD (i : Nat) (env : Sl) : Bool := match env[i]? with
  | some (some (.D _)) => true
  | _ => false
def dlpK (i : Nat) (fk : Sl → M R) (env : Sl) (r : R) : M Oc := match r with
  | .l true xs => (fk env).bind fun k => putDS i k xs env
  | _ => .error .stuck
def sDlp (i : Nat) (fk fv : Sl → M R) : Sl → M Oc := fun env => if isDD i env = true then (fv env).bind (dlpK i fk env) else .error .stuck
theorem xs_dlp (i : Nat) {x : Str} {ek : Expr} {p1 ps : Pos} (ok : w.Ok) (hu : X.A.units + 1 < cLine) (hx : PE X (.Name x p1) (tVar i)) (hk : PE X ek (rdE w W fk)) (he : PE X e (rdE w W fv))
    (hs : swapsWith e (some (.Subscript (.Name x p1) ek ps)) pos.line X.env = pure false := by rfl) : PS X (.Assign [.Subscript (.Name x p1) ek ps] e pos) (rdS w W (sDlp i fk fv)) := by
  refine PSi (ps_dput hu hx hk he hs) fun D σ H h => ?_
  obtain ⟨H0, B, env, G, g, x, h⟩ := h
  unfold sDlp at h
  split at h
  · rename_i hd
    unfold isDD at hd
    split at hd
    · rename_i kvs e0
      refine ⟨H0, B, env, G, g, x, ?_⟩
      cases e3 : fv env with
      | error er => rw [e3] at h; exact PostE.err.mpr (PostX.up g h)
      | ok r =>
        rw [e3] at h
        intro v H1 G1 g1 rv fr
        replace h : PostS w W H0 B G (dlpK i fk env r) D := h
        unfold dlpK at h
        split at h
        · rename_i xs
          obtain ⟨q, vs, rfl, nq, hq, hr⟩ := rv
          have h0q : H q = none := fr rfl q rfl
          have x1 := x.grow ok g1
          obtain ⟨hh, u0, hu0, ⟨p0, kv0, rfl, np0, hp0, fl0⟩, hf0⟩ := x.at_ i _ e0
          refine ⟨.ref p0, hu0, H0, B, env, G1, g.trans g1, x1, ?_⟩
          cases e5 : fk env with
          | error er => rw [e5] at h; exact PostE.err.mpr (PostX.up (g.trans g1) h)
          | ok rk =>
            rw [e5] at h
            intro u H3 G3 g3 rk3 _
            replace h : PostS w W H0 B G (putDS i rk xs env) D := h
            unfold putDS at h
            rw [e0] at h
            dsimp only at h
            split at h
            · rename_i y
              split at h
              · rename_i key ek
                split at h
                · rename_i c
                  obtain rfl := keyA_V ek rk3
                  have x3 := x1.grow ok g3
                  obtain ⟨_, u3, hu3, ⟨p3, kv, rfl, np, hp, fl⟩, _⟩ := x3.at_ i _ e0
                  rw [hu0] at hu3
                  cases hu3
                  have hq3 : H3 q = some (.lst vs) := g3.h _ _ hq
                  have nq3 : G3 q = none := g3.a q _ rfl nq hq
                  have hr3 := RpL.mono g3.g _ _ hr
                  have offq : ∀ (j : Nat) (r1 : R) (u : V), env[j]? = some (some r1) → σ[j]? = some (some u) → ¬ foot H3 r1 u q := fun j r1 u e2 s2 f2 => by
                    obtain ⟨_, u', b, c', _⟩ := x.at_ j r1 e2
                    rw [s2] at b
                    cases b
                    obtain ⟨_, o', ho, _⟩ := foot_has c' (foot_same (fun p o _ z => g3.h _ _ (g1.h p o z)) c' f2)
                    rw [h0q] at ho
                    cases ho
                  have nv : ∀ k', (k', V.ref q) ∉ kv := fun k' mm => offq i _ _ e0 hu0 (.inr ⟨p0, kv, k', rfl, hp, mm⟩)
                  have hne : q ≠ p0 := fun z => by rw [z, hp] at hq3; cases hq3
                  have len : kv.length = kvs.length := fl.len2
                  have vn : valV kv key = none := by
                    rcases fl.val key with ⟨_, b⟩ | ⟨xs', _, _, b, _⟩
                    · exact b
                    · rw [c.1] at b; cases b
                  have pk : putK kv key (.ref q) = kv ++ [(key, .ref q)] := putK_new _ vn
                  have npv : ∀ k', (k', V.ref p0) ∉ kv ++ [(key, .ref q)] := fun k' mm => by
                    rcases List.mem_append.mp mm with mm | mm
                    · obtain ⟨q', vs', e9, _, h9⟩ := fl.has mm
                      cases e9
                      rw [hp] at h9
                      cases h9
                    · have e := List.mem_singleton.mp mm
                      cases e
                      exact hne rfl
                  have fl2 := (fl.snoc (k := key) nq3 hq3 hr3 nv).other (o := .dK (kv ++ [(key, .ref q)])) npv
                  obtain ⟨sx, gx⟩ := x3.put (r' := .D (kvs ++ [(key, xs)])) (o := .dK (kv ++ [(key, .ref q)])) e0 hu0 (.inl rfl) rfl ⟨p0, kv ++ [(key, .ref q)], rfl, np, upd_same, fl2⟩ fun a fa => by
                    rcases fa with fa | ⟨p', kv', k', e', h', m'⟩
                    · exact .inl (.inl fa)
                    · cases e'
                      rw [upd_same] at h'
                      cases h'
                      rcases List.mem_append.mp m' with mm | mm
                      · exact .inl (.inr ⟨p0, kv, k', rfl, hp, mm⟩)
                      · have e := List.mem_singleton.mp mm
                        cases e
                        exact .inr ⟨(g.h.free h0q), fun j r1 u e2 s2 f2 => offq j r1 u e2 s2 f2⟩
                  refine ⟨p0, _, rfl, DPut.k hp (by rw [len]; exact Nat.lt_of_lt_of_le c.2 (by decide)), ?_⟩
                  rw [pk]
                  exact h σ _ G3 (gx B ((g.trans g1).trans g3)) (g1.g.trans g3.g) sx
                · exact (h []).elim
              · exact (h []).elim
            · exact (h []).elim
        · exact (h []).elim
    · cases hd
  · exact (h []).elim
/-! ### return d.get(k) -/
def dgK (kvs : List (Key × List PD)) (k : R) : M R := match k with
  | .d y => (match keyA y with
    | some key => (match valG kvs key with
      | some xs => .ok (.l true xs)
      | none => .ok (.d .none))
    | none => .error .stuck)
  | _ => .error .stuck
def rDg (i : Nat) (fk : Sl → M R) : Sl → M R := fun env => match env[i]? with
  | some (some (.D kvs)) => (fk env).bind (dgK kvs)
  | _ => .error .stuck
theorem xr_dg (i : Nat) {x : Str} {p1 apos : Pos} (ok : w.Ok) (hu : X.A.units + 1 < cLine) (hx : PE X (.Name x p1) (tVar i)) (hk : PE X e (rdE w W fk)) (m : M1 X (.Name x p1) "get" apos e pos) : PE X (.Call (.Attribute (.Name x p1) "get" apos) [e] [] pos) (rdR w W (rDg i fk)) := by
  refine PEi (pe_dget1 hu hx hk m) fun σ H Q h => ?_
  obtain ⟨H0, B, env, G, g, x, h⟩ := h
  unfold rDg at h
  split at h
  · rename_i kvs e0
    obtain ⟨_, u0, hu0, ⟨p0, kv0, rfl, np0, hp0, fl0⟩, _⟩ := x.at_ i _ e0
    refine ⟨.ref p0, hu0, p0, rfl, .inl ⟨kv0, .inl hp0⟩, H0, B, env, G, g, x, ?_⟩
    cases e5 : fk env with
    | error er => rw [e5] at h; exact PostE.err.mpr (PostX.up g h)
    | ok rk =>
      rw [e5] at h
      intro u H3 G3 g3 rk3 _
      replace h : PostR w W H0 B (dgK kvs rk) Q := h
      unfold dgK at h
      split at h
      · rename_i y
        split at h
        · rename_i key ek
          obtain rfl := keyA_V ek rk3
          have x3 := x.grow ok g3
          obtain ⟨_, u3, hu3, ⟨p3, kv, rfl, np, hp, fl⟩, h0⟩ := x3.at_ i _ e0
          rw [hu0] at hu3
          cases hu3
          refine ⟨valV kv key, DGet.k hp, ?_⟩
          split at h
          · rename_i xs e6
            rcases fl.val key with ⟨b, _⟩ | ⟨xs', q, vs, b1, b2, b3, b4, b5, b6⟩
            · rw [e6] at b; cases b
            · rw [e6] at b1
              cases b1
              rw [b2]
              exact h (.ref q) H3 G3 (g.trans g3) ⟨q, vs, rfl, b4, b5, b6⟩ fun _ q' e => by cases e; exact h0 q (.inr ⟨p0, kv, key, rfl, hp, b3⟩)
          · rename_i e6
            rcases fl.val key with ⟨_, b⟩ | ⟨xs', q, vs, b1, _⟩
            · rw [b]
              exact h .non H3 G3 (g.trans g3) .non (Fr.no rfl)
            · rw [e6] at b1; cases b1
        · exact (h []).elim
      · exact (h []).elim
  · exact (h []).elim
end
end Vs
end
section
namespace Vs
open PySem PySem.Spec PyProof.Rows L2
variable {w : Wd} {W : WX}
/-! ## list(d), the keys pairs of ints -/
def oListT : R → M R := fun r => match r with
  | .T _ kvs => (match prsK? (kvs.map (·.1)) with
    | some ps => .ok (.l true (ps.map prD))
    | none => .error .stuck)
  | _ => .error .stuck
theorem oListT_tame (r : R) (x : Str) (i : Option Int) : oListT r ≠ .error (.exc x i) := fun e => by
  unfold oListT at e; split at e
  · split at e <;> cases e
  · cases e
theorem listTS {K : PySem.W.Frag} (hK : K = w.K) : CallS w (fun xs H Q => ∃ d kvs, xs = [V.ref d] ∧ Rd H d (.dT kvs) ∧ ∀ p bs, H p = none → IsKeys H kvs bs → Q (.ref p) (upd H p (.lst (bs.map V.ref)))) (one1 oListT) := by
  refine oneS fun H G v y Q s rr h => ?_
  unfold oListT at h
  split at h
  · rename_i b kvs
    split at h
    · rename_i ps e1
      obtain ⟨p, kv, rfl, hn, hp, k1, k2⟩ := rr
      have e2 := prsK_eq e1
      rw [← k1] at e2
      refine ⟨p, kv, rfl, .inl hp, fun q bs hq hk => ?_⟩
      obtain ⟨m1, m2⟩ := pairs_bs hk e2
      have hy : ∀ v ∈ bs.map V.ref, ∃ b i j, v = .ref b ∧ H b = some (.tup [.int i, .int j]) ∧ addTo G H (bs.map V.ref) b = some (.tup [.int i, .int j]) := fun v hv => by
        obtain ⟨b, hb, rfl⟩ := List.mem_map.mp hv
        obtain ⟨i, j, e⟩ := m2 b hb
        exact ⟨b, i, j, rfl, e, addTo_at s hv e⟩
      have hz := RpL.ofPairs hy
      rw [m1] at hz
      refine h (.ref q) _ (addTo G H (bs.map V.ref)) (Grow.keys s hq fun b hb => ?_) ⟨q, _, rfl, addTo_out (fun m => ?_) (s.free hq), upd_same, hz⟩ fun _ q' e => by cases e; exact hq
      · obtain ⟨b', hb', e⟩ := List.mem_map.mp hb
        cases e
        obtain ⟨i, j, e⟩ := m2 _ hb'
        exact ⟨_, e⟩
      · obtain ⟨b', hb', e⟩ := List.mem_map.mp m
        cases e
        obtain ⟨i, j, e⟩ := m2 _ hb'
        rw [hq] at e; cases e
    · exact h.elim
  · exact h.elim
end Vs
end
section
namespace Vs
open PySem PySem.Spec PyProof.Rows L2
/-! ## a lambda of one parameter, called by a built-in -/
section
variable {X : Cx} {pins : List (Addr × Obj)} {σ : L2.St} {H : Hp} {s : Shared} {E : Value → Shared → Prop}
theorem raw_var {i : Nat} {x : Str} {v : V} {pos : Pos} {Q : Value → Shared → Prop} (I : Inv X pins σ H s) (hN : X.N[i]? = some x) (e : σ[i]? = some (some v)) (hv : Vis X.env.scope x) (q : ∀ u, RelV v u → Q u s) (hd : (x == ("__debug__" : Str)) = false := by decide)
    (hcd : (x == ("__classdict__" : Str)) = false := by decide) : wpAny (model X.prog X.w) X.A (eval (.Name x pos) X.env) Q E s := by
  obtain ⟨m, hn, hl⟩ := I.loc
  obtain ⟨u, r, l⟩ := hl i x v hN e hv
  have fin : Q u s := q u r
  rcases l with ⟨hk, hm⟩ | ⟨hk, c, hc, hcell⟩
  · exact wpAny_Name (wpAny_loadName_local I.ok.kind hk hn hm fin) hd
  · rcases hk with hk | hk
    · exact wpAny_Name (wpAny_loadName_cell I.ok.kind hk hc hcell fin) hd
    · exact wpAny_Name (wpAny_loadName_free I.ok.kind hk hc hcell fin hcd) hd
/-- len(x[1]), x a tuple whose second is a list -/
theorem raw_len {x : Str} {t l : Addr} {a : V} {us : List V} {j : Nat} {p1 p2 p3 p4 p5 : Pos} {Q : Value → Shared → Prop} (I : Inv X pins σ H s) (hN : X.N[0]? = some x) (e : σ[0]? = some (some (.ref t))) (hv : Vis X.env.scope x) (hg : Gl X "len") (hm : X.mg "len" = none)
    (ht : SqT X.K H t [a, .ref l]) (hl : SqL X.K H l us) (q : ∀ tk tk', Q (.int us.length tk) { s with toks := tk' }) (hd : (x == ("__debug__" : Str)) = false := by decide) (hcd : (x == ("__classdict__" : Str)) = false := by decide) :
    wpAny (model X.prog X.w) X.A (eval (.Call (.Name "len" p1) [.Subscript (.Name x p2) (.Constant (.int 1) j p3) p4] [] p5) X.env) Q E s := by
  refine Call_ (ld_blt I hg hm boot_len ?_)
  apply PyProof.Rows.callWith_builtin1 (PyProof.Rows.args_cons ?_ rfl) rfl rfl
  refine Subscript_ (raw_var I hN e hv (fun u ru => ?_) hd hcd)
  obtain rfl : u = Value.ref t := ru
  refine wpAny_Constant_int ?_
  have I2 := I.tok (s.toks + 1)
  obtain ⟨its, r, pl, hz⟩ := I2.tuple ht
  obtain ⟨u1, u2, rfl, r1, r2⟩ := vals2 r
  obtain rfl : u2 = Value.ref l := r2
  refine subscriptTail_builtinR (x := .ref l) pl.typeIs slot_tuple_getitem.lookup (getItem_tuple (j := 1) (Q := fun r s' => r = .ref l ∧ _) pl (by decide) (by decide) (by rfl) (by rfl) ⟨rfl, ?_⟩) (by with_unfolding_all rfl)
  apply PyProof.Rows.args_nil
  obtain ⟨its2, rl, pl2, hz2⟩ := I2.list hl
  have hlen := rl.length
  refine Calls.call_len_list pl2.isList (by simp only [List.size_toArray]; have := line63; have hs : sizeLine = 16777216 := sizeLine_eq; omega) ?_
  have e3 : (its2.toArray.size : Int) = us.length := by rw [List.size_toArray, hlen]
  rw [e3]
  exact q _ _
end
end Vs
end
section
namespace Vs
open PySem PySem.Spec PyProof.Rows L2
section
variable {X : Cx} {pins : List (Addr × Obj)} {σ : L2.St} {H : Hp} {s : Shared}
/-- the keys that the laws sort by -/
inductive KeyB (x : Str) : Bool → Expr → Prop
  | len {j : Nat} {p1 p2 p3 p4 p5 : Pos} : KeyB x false (.Call (.Name "len" p1) [.Subscript (.Name x p2) (.Constant (.int 1) j p3) p4] [] p5)
  | neg {i j : Nat} {p0 p6 p1 p2 p3 p4 p5 : Pos} : KeyB x true (.BinOp (.Constant (.int 0) i p0) .Sub (.Call (.Name "len" p1) [.Subscript (.Name x p2) (.Constant (.int 1) j p3) p4] [] p5) p6)
def keyN (b : Bool) (n : Nat) : Int := if b then 0 - (n : Int) else n
theorem raw_key {E : Value → Shared → Prop} {b : Bool} {body : Expr} {x : Str} {t l : Addr} {a : V} {us : List V} {Q : Value → Shared → Prop} (B : KeyB x b body) (I : Inv X pins σ H s) (hN : X.N[0]? = some x) (e : σ[0]? = some (some (.ref t))) (hv : Vis X.env.scope x) (hg : Gl X "len") (hm : X.mg "len" = none)
    (ht : SqT X.K H t [a, .ref l]) (hl : SqL X.K H l us) (q : ∀ tk tk', Q (.int (keyN b us.length) tk) { s with toks := tk' }) (hd : (x == ("__debug__" : Str)) = false) (hcd : (x == ("__classdict__" : Str)) = false) :
    wpAny (model X.prog X.w) X.A (eval body X.env) Q E s := by
  cases B with
  | len => exact raw_len I hN e hv hg hm ht hl q hd hcd
  | neg =>
    refine wpAny_BinOp (wpAny_Constant_int ?_)
    refine raw_len (I.tok (s.toks + 1)) hN e hv hg hm ht hl (fun tk tk' => ?_) hd hcd
    exact sub_int (q _ _)
theorem lam_key {f c' : Addr} {params : Arguments} {body : Expr} {scope : Scope} {pm ctv : Value} {qual x : Str} {b : Bool} (I : Inv X pins σ H s) (of : s.heap.get? f = some (PySem.W.kla_obj "<lambda>" qual params body scope [] pm c' ctv)) (rc : s.heap.CodeRec (.ref c') qual)
    (S : FnScope [x] [x] scope) (hb : ∀ u, bindArgs (PySem.W.kla_fn "<lambda>" qual params body scope [] pm (.ref c') ctv) ⟨[u], []⟩ = pure [(x, u)]) (hg : scope.names.lookup (Str.ofString "len") = some .globalImplicit) (hm : X.mg "len" = none) (hr : Room 4 X.A) (B : KeyB x b body) (hl0 : scope.names.lookup x = some .local)
    (hd : (x == ("__debug__" : Str)) = false) (hcd : (x == ("__classdict__" : Str)) = false) {t l : Addr} {a : V} {us : List V} (ht : SqT X.K H t [a, .ref l]) (hl : SqL X.K H l us) :
    ∀ (h : Heap) (tk : Nat), (∀ b o, s.heap.get? b = some o → h.get? b = some o) →
      wpAny (model X.prog X.w) X.A.in1.in1 (call (.ref f) [.ref t]) (PySem.W.KeyPure (.int (keyN b us.length)) { s with heap := h, toks := tk }) (fun _ _ => False) { s with heap := h, toks := tk } := by
  intro h tk kp
  have I1 : Inv X pins σ H { s with heap := h, toks := tk } := I.kept kp
  have hr1 : Room 2 X.A.in1.in1 := (hr.in1).in1
  have en : Env0 X.prog X.w X.K X.mg X.base X.A.in1.in1 X.stack { s with heap := h, toks := tk } H := I1.env0.in1.in1
  have of1 : h.get? f = some (PySem.W.kla_obj "<lambda>" qual params body scope [] pm c' ctv) := kp _ _ of
  have rc1 : h.CodeRec (.ref c') qual := by
    obtain ⟨c, oc, vs, tq, e1, e2, e3, e4⟩ := rc
    exact ⟨c, oc, vs, tq, e1, kp _ _ e2, e3, e4⟩
  generalize hs1 : ({ s with heap := h, toks := tk } : Shared) = s1 at I1 en ⊢
  have hh1 : s1.heap = h := by rw [← hs1]
  rw [← hh1] at of1 rc1
  have old : ∀ b o, X.base.get? b = some o → s1.heap.get? b = some o := fun b o z => (en.bs b o z).1
  have nl := en.mod.nolimit.keeps old
  have loc : ∀ y ∈ ([x].zip [Value.ref t]), scope.names.lookup y.1 = some .local ∨ (scope.names.lookup y.1 = some .cell ∧ ((cellsFrom (s1.heap.objs.size + 1) scope.names []).lookup y.1).isSome = true) := by
    rintro ⟨n, v⟩ hy
    refine (S.par n (List.of_mem_zip hy).1).imp id fun q => ⟨q, PySem.W.cellsFrom_some _ _ _ (.inl q)⟩
  have rcd : codeAny (model X.prog X.w) X.A.in1.in1 (.call (.ref f) ⟨[.ref t], []⟩) (fun r s' => match r with
      | .ok (.ret v) => PySem.W.KeyPure (.int (keyN b us.length)) s1 v s'
      | _ => False) s1 := by
    refine PySem.W.kla_callFunE hr1.depth of1 rfl S.co S.gen rfl rc1 ?_
    rw [hb]
    refine wpAny_pure ?_
    apply wpAny_newFunctionEnv_cells S.kind loc
    intro env he s2 ic
    subst he
    refine ⟨nl.keeps ic.toInCall.keep, ?_⟩
    have iv := inv_start (CX := L2.CX X.prog X.w) (E := fun _ _ _ => False) S hr1.hd en (vs := [V.ref t]) rfl (.cons rfl .nil) ic
    obtain ⟨h1, tk1, e2, k2⟩ := ic.done
    refine PySem.W.kla_codeExpr (raw_key B iv rfl rfl (.inl hl0) hg hm ht hl (fun tk2 tk3 => ?_) hd hcd)
    subst e2
    exact ⟨_, _, rfl, ic.toInCall.keep, .int _ _⟩
  refine wpAny_call (codeAny_mono rcd fun r s' q => ?_)
  cases r with
  | error e => exact q.elim
  | ok fl =>
    cases fl with
    | ret v => exact q
    | _ => exact q.elim
end
end Vs
end
section
namespace Vs
open PySem PySem.Spec PyProof.Rows L2
open PySem.W (EachIs)
open LamX
theorem sqL_ext {K : PySem.W.Frag} {H H2 : Hp} {p : Addr} {xs : List V} (e : ExtN H H2) (h : SqL K H p xs) : SqL K H2 p xs := by
  rcases h with h | h
  · left
    rcases h with h | ⟨o, h⟩
    · exact .inl (e _ _ h fun ps z => by cases z)
    · exact .inr ⟨o, e _ _ h fun ps z => by cases z⟩
  · exact .inr h
theorem sqT_ext {K : PySem.W.Frag} {H H2 : Hp} {p : Addr} {xs : List V} (e : ExtN H H2) (h : SqT K H p xs) : SqT K H2 p xs := by
  rcases h with h | h
  · left
    rcases h with h | ⟨o, h⟩
    · exact .inl (e _ _ h fun ps z => by cases z)
    · exact .inr ⟨o, e _ _ h fun ps z => by cases z⟩
  · exact .inr h
theorem refs_fst {α : Type} : ∀ {bs : List (Addr × α)} {us : List Value}, Vals (bs.map fun q => V.ref q.1) us → us = bs.map fun q => Value.ref q.1
  | [], _, .nil => rfl
  | q :: bs, u :: us, .cons h t => by
    obtain rfl : u = Value.ref q.1 := h
    rw [refs_fst (bs := bs) t]
    rfl
theorem refs_back {α : Type} : ∀ (bs : List (Addr × α)), Vals (bs.map fun q => V.ref q.1) (bs.map fun q => Value.ref q.1)
  | [] => .nil
  | q :: bs => .cons rfl (refs_back bs)
theorem each_ref {α : Type} : ∀ (bs : List (Addr × α)), EachIs (fun v (q : Addr × α) => v = Value.ref q.1) (bs.map fun q => Value.ref q.1) bs
  | [] => .nil
  | q :: bs => .cons rfl (each_ref bs)
theorem each_back {α : Type} : ∀ {vs : List Value} {bs : List (Addr × α)}, EachIs (fun v (q : Addr × α) => v = Value.ref q.1) vs bs → vs = bs.map fun q => Value.ref q.1
  | _, _, .nil => rfl
  | _, _, .cons h t => by rw [h, each_back t]; rfl
def skLe (b : Bool) (x y : Nat) : Bool := decide (keyN b x ≤ keyN b y)
def tSK (K : PySem.W.Frag) (T : List (Addr × Str)) (b : Bool) (ta : TE) : TE := fun σ H Q => ta σ H fun x H1 => ∃ (l : Addr) (bs : List (Addr × Nat)), [x] = [V.ref l] ∧ SqL K H1 l (bs.map fun q => V.ref q.1) ∧
  (∀ q ∈ bs, ∃ a l2 us, SqT K H1 q.1 [a, .ref l2] ∧ SqL K H1 l2 us ∧ us.length = q.2) ∧ Tabs T H1 ∧
  ∀ p H2, ExtN H1 H2 → Tabs T H2 → H2 p = none → Q (.ref p) (upd H2 p (.lst ((bs.mergeSort fun x y => skLe b x.2 y.2).map fun q => V.ref q.1)))
theorem pe_sortKey {X : Cx} {T : List (Addr × Str)} {c P : Addr} {a : Expr} {ta : TE} {b : Bool} {x : Str} {params : Arguments} {body : Expr} {scope : Scope} {p1 lpos kpos pos : Pos} (TB : LamX.TabB X.base X.mg c P) (hcode : X.env.code = .ref c)
    (hm : (P, X.env.qual ++ "<lambda>") ∈ T) (hu : ∀ p ∈ T, p.1 = P → p.2 = X.env.qual ++ "<lambda>") (hdef : defaultsOf params X.env = ([], [])) (hfree : ∀ y ∈ scope.names, y.2 ≠ .free) (hcl : cloFrom X.env.cells scope.names [] = [])
    (S : FnScope [x] [x] scope) (hb : ∀ pm c' ctv u, bindArgs (PySem.W.kla_fn "<lambda>" (X.env.qual ++ "<lambda>") params body scope [] pm (.ref c') ctv) ⟨[u], []⟩ = pure [(x, u)]) (hgl : scope.names.lookup (Str.ofString "len") = some .globalImplicit) (hml : X.mg "len" = none)
    (B : KeyB x b body) (hl0 : scope.names.lookup x = some .local) (hd : (x == ("__debug__" : Str)) = false) (hcd : (x == ("__classdict__" : Str)) = false)
    (hr : Room 4 X.A) (hg : Gl X "sorted") (hms : X.mg "sorted" = none) (ha : PA X [a] (tCons ta tNil))
    (he : backTo pos (starEach [a] X.env) = (false, eval a X.env) :: backTo pos (starEach [] X.env) := by rfl) (hpl : (backTo pos (starEach [a] X.env)).any (·.1) = false := by rfl) :
    PE X (.Call (.Name "sorted" p1) [a] [⟨some "key", .Lambda params body scope lpos, kpos⟩] pos) (tSK X.K T b ta) := by
  refine ⟨fun pins s σ H Q I h => ?_⟩
  refine wpAny_Call_Name_kw (ld_blt I hg hms boot_sorted ?_)
  refine PyProof.Rows.callWith_kw (thn (ha.run pos pins s σ H (fun vs H1 => ∃ (l : Addr) (bs : List (Addr × Nat)), vs = [V.ref l] ∧ SqL X.K H1 l (bs.map fun q => V.ref q.1) ∧
    (∀ q ∈ bs, ∃ a l2 us, SqT X.K H1 q.1 [a, .ref l2] ∧ SqL X.K H1 l2 us ∧ us.length = q.2) ∧ Tabs T H1 ∧
    ∀ p H2, ExtN H1 H2 → Tabs T H2 → H2 p = none → Q (.ref p) (upd H2 p (.lst ((bs.mergeSort fun x y => skLe b x.2 y.2).map fun q => V.ref q.1)))) I ?_) fun us s1 z => ?_) he hpl rfl rfl
  · exact h
  obtain ⟨vs, H1, I1, r1, l, bs, ev, hl, hq, ht, q⟩ := z
  subst ev
  obtain ⟨u, rfl, ru⟩ := vals1 r1
  obtain rfl : u = Value.ref l := ru
  show wpAny _ _ (evalAll [do let v ← eval (.Lambda params body scope lpos) X.env; standAt pos; pure v]) _ _ s1
  refine wpAny_evalAll_cons (wpAny_bind (lam_make2 I1 TB hcode hm hu ht hdef (fun y hy e => absurd e (hfree y hy)) fun f c' pm ctv H2 s2 I2 ex t2 of fn fr co => wpAny_bind (wpAny_standAt (wpAny_pure (wpAny_evalAll_nil ?_)))))
  rw [hcl] at of
  obtain ⟨⟨oc, vs, t, hoc, hdc, hvc⟩, _, _⟩ := I2.hok c' _ co
  have rc : s2.heap.CodeRec (.ref c') (X.env.qual ++ "<lambda>") := ⟨c', oc, vs, t, rfl, hoc, hdc, hvc⟩
  obtain ⟨its, rv, pl, hz⟩ := I2.list (sqL_ext ex hl)
  have ei := refs_fst rv
  subst ei
  have hsz : sizeLine = 16777216 := sizeLine_eq
  have lenB : bs.length ≤ sizeLine := by
    have := rv.length
    rw [List.length_map, List.length_map] at this
    have := hz
    simp only [List.length_map] at this
    omega
  show wpAny _ _ (call (.builtin "sorted") [.ref l] [(Str.ofString "key", .ref f)]) _ _ _
  refine PySem.W.sorted_key_data (b := false) (vs := bs.map fun q => Value.ref q.1) (R := fun v (q : Addr × Nat) => v = Value.ref q.1) (fun q : Addr × Nat => .int (keyN b q.2)) pl.isList (each_ref bs) (PySem.W.AllAlike.of fun _ _ => by simp [PySem.W.alike]) (PySem.W.Sortable.others fun _ => ⟨by simp, by simp⟩) lenB
    (fun x _ => ?_) (ksk_s1 _ _) (fun _ => ksk_l1 _ _) (fun _ => ksk_t1 _ _) (fun v q2 e hm2 h tk kp => ?_) fun out c2 h' tk kp fresh hD len eo => ?_
  · have hd : (PyData.int (keyN b x.2)).depth = 0 := by simp [PyData.depth]
    have := hr.units
    omega
  · subst e
    obtain ⟨a2, l2, us2, k1, k2, k3⟩ := hq q2 hm2
    have := lam_key I2 of rc S (hb pm c' ctv) hgl hml hr B hl0 hd hcd (sqT_ext ex k1) (sqL_ext ex k2) h tk kp
    rw [k3] at this
    exact this
  · rw [PySem.W.dataLe_int] at eo
    have eb := each_back eo
    have pn : H2 (s2.heap.objs.size + 1) = none := I2.hok.fresh (Nat.le_succ _)
    have ln : ((bs.mergeSort fun x y => skLe b x.2 y.2).map fun q => V.ref q.1).length ≤ sizeLine := by
      rw [List.length_map, List.length_mergeSort]
      exact lenB
    have I3 := I2.laid (t' := tk) (o := .lst ((bs.mergeSort fun x y => skLe b x.2 y.2).map fun q => V.ref q.1)) kp (Nat.le_succ _) (show ObjOk X.prog X.w _ h' _ (.lst _) from ⟨ln, out, c2, by rw [eb]; exact refs_back _, hD⟩)
    exact ⟨.ref (s2.heap.objs.size + 1), _, I3, rfl, q _ H2 ex t2 pn⟩
end Vs
end
section
namespace Vs
open PySem PySem.Spec PyProof.Rows L2
open LamX (ExtN Tabs TabS TabB)
variable {w : Wd} {W : WX}
/-! ## frames in which a table of code objects may grow -/
/-- all but the tables -/
def noT (H : Hp) : Hp := fun b => match H b with
  | some (.tbl _) => none
  | o => o
theorem noT_of {H : Hp} {b : Addr} {o : HO} (h : H b = some o) (n : ∀ ps, o ≠ .tbl ps) : noT H b = some o := by
  unfold noT
  rw [h]
  cases o <;> first | rfl | exact absurd rfl (n _)
theorem noT_some {H : Hp} {b : Addr} {o : HO} (h : noT H b = some o) : H b = some o ∧ ∀ ps, o ≠ .tbl ps := by
  unfold noT at h
  split at h
  · cases h
  · rename_i n
    refine ⟨h, fun ps z => ?_⟩
    subst z
    exact n ps h
theorem noT_none {H : Hp} {b : Addr} (h : H b = none) : noT H b = none := by unfold noT; rw [h]
theorem noT_sub (H : Hp) : Same (noT H) H := fun b o h => (noT_some h).1
theorem noT_mono {H H2 : Hp} (e : ExtN H H2) : Same (noT H) H2 := fun b o h => e b o (noT_some h).1 (noT_some h).2
theorem noT_same {G G2 : Hp} (e : Same G G2) : Same (noT G) (noT G2) := fun b o h => noT_of (e b o (noT_some h).1) (noT_some h).2
mutual
theorem Rp.noT {G : Hp} : ∀ (d : PD) (v : V), Rp G v d → Rp (Vs.noT G) v d
  | .none, _, h => by cases h; exact .non
  | .bool b, _, h => by cases h; exact .bl b
  | .int i, _, h => by cases h; exact .int i
  | .str x, _, h => by cases h; exact .str x
  | .list ds, _, h => by
    cases h with
    | lst h1 h2 => exact .lst (noT_of h1 fun ps z => by cases z) (RpL.noT ds _ h2)
  | .tuple ds, _, h => by
    cases h with
    | tup h1 h2 => exact .tup (noT_of h1 fun ps z => by cases z) (RpL.noT ds _ h2)
  | .dict _, _, h => by
    cases h with
    | emp h1 => exact .emp (noT_of h1 fun ps z => by cases z)
theorem RpL.noT {G : Hp} : ∀ (ds : List PD) (vs : List V), RpL G vs ds → RpL (Vs.noT G) vs ds
  | [], _, h => by cases h; exact .nil
  | d :: ds, _, h => by
    cases h with
    | cons h1 h2 => exact .cons (Rp.noT d _ h1) (RpL.noT ds _ h2)
end
/-- data, the script, own lists: told without the tables -/
def R.pl : R → Bool
  | .d _ => true
  | .l _ _ => true
  | .T _ _ => true
  | .M _ _ => true
  | .s _ => true
  | _ => false
theorem Rr.noT {H G H2 G2 : Hp} {r : R} {v : V} (hp : r.pl = true) (h : Rr w H G v r) (e : ExtN H H2) (s : Same (Vs.noT G) G2) (a : ∀ b o, fixd o = false → (∀ ps, o ≠ .tbl ps) → G b = none → H b = some o → G2 b = none) : Rr w H2 G2 v r := by
  cases r with
  | d x => exact Rp.mono s x v (Rp.noT x v h)
  | l b xs =>
    obtain ⟨p, vs, rfl, n, hq, hr⟩ := h
    exact ⟨p, vs, rfl, a p _ rfl (fun ps z => by cases z) n hq, e _ _ hq (fun ps z => by cases z), RpL.mono s _ _ (RpL.noT _ _ hr)⟩
  | T b kvs =>
    obtain ⟨p, kv, rfl, n, hq, k, hr⟩ := h
    exact ⟨p, kv, rfl, a p _ rfl (fun ps z => by cases z) n hq, e _ _ hq (fun ps z => by cases z), k, RpL.mono s _ _ (RpL.noT _ _ hr)⟩
  | M b kvs =>
    obtain ⟨p, kv, rfl, n, hq, k, hr⟩ := h
    exact ⟨p, kv, rfl, a p _ rfl (fun ps z => by cases z) n hq, e _ _ hq (fun ps z => by cases z), k, RpL.mono s _ _ (RpL.noT _ _ hr)⟩
  | s ns =>
    obtain ⟨p, rfl, hq⟩ := h
    refine ⟨p, rfl, ?_⟩
    rcases hq with h | h
    · left
      rcases h with h | ⟨o, h⟩
      · exact .inl (s _ _ (noT_of h fun ps z => by cases z))
      · exact .inr ⟨o, s _ _ (noT_of h fun ps z => by cases z)⟩
    · exact .inr h
  | _ => cases hp
/-- an own thing of a plain kind is one object -/
theorem foot_pl {H : Hp} {r : R} {v : V} {a : Addr} (hp : r.pl = true) (f : foot H r v a) : v = .ref a ∧ r.own = true := by
  cases r with
  | l _ _ => exact ⟨f, rfl⟩
  | T _ _ => exact ⟨f, rfl⟩
  | M _ _ => exact ⟨f, rfl⟩
  | d _ => exact f.elim
  | s _ => exact f.elim
  | _ => cases hp
theorem foot_pl' {H H2 : Hp} {r : R} {v : V} {a : Addr} (hp : r.pl = true) (f : foot H r v a) : foot H2 r v a := by
  cases r with
  | l _ _ => exact f
  | T _ _ => exact f
  | M _ _ => exact f
  | d _ => exact f.elim
  | s _ => exact f.elim
  | _ => cases hp
def plS (env : Sl) : Bool := env.all fun o => match o with
  | some r => r.pl
  | none => true
theorem plS_at {env : Sl} (h : plS env = true) {i : Nat} {r : R} (e : env[i]? = some (some r)) : r.pl = true := by
  have := List.all_eq_true.mp h (some r) (List.mem_of_getElem? e)
  exact this
theorem Sim.noT {H0 : Hp} {env : Sl} {σ : L2.St} {H G H2 G2 : Hp} (hp : plS env = true) (x : Sim w H0 env σ H G) (e : ExtN H H2) (s : Same (Vs.noT G) G2) (a : ∀ b o, fixd o = false → (∀ ps, o ≠ .tbl ps) → G b = none → H b = some o → G2 b = none) : Sim w (Vs.noT H0) env σ H2 G2 := by
  refine ⟨x.len, fun i r e1 => ?_, fun i j r1 r2 u1 u2 c e1 e2 s1 s2 f1 f2 => x.inj i j r1 r2 u1 u2 c e1 e2 s1 s2 (foot_pl' (plS_at hp e1) f1) (foot_pl' (plS_at hp e2) f2)⟩
  obtain ⟨q, v, hv, rr, h0⟩ := x.at_ i r e1
  exact ⟨q, v, hv, rr.noT (plS_at hp e1) e s a, fun c f => noT_none (h0 c (foot_pl' (plS_at hp e1) f))⟩
theorem Sim.base {H0 H1 : Hp} {env : Sl} {σ : L2.St} {H G : Hp} (x : Sim w H0 env σ H G) (h : ∀ b, H0 b = none → H1 b = none) : Sim w H1 env σ H G :=
  ⟨x.len, fun i r e => let ⟨a, v, b, c, d⟩ := x.at_ i r e; ⟨a, v, b, c, fun y f => h y (d y f)⟩, x.inj⟩
/-- the weaker growth -/
theorem Grow.noT {H0 B H G H2 : Hp} (g : Grow H0 B H G) (e : ExtN H H2) : Grow (Vs.noT H0) (Vs.noT B) H2 (Vs.noT G) := by
  refine ⟨fun b o h => e b o (g.h b o (noT_some h).1) (noT_some h).2, noT_same g.g, fun b o h => e b o (g.s b o (noT_some h).1) (noT_some h).2, fun b o f n h => ?_⟩
  obtain ⟨h1, h2⟩ := noT_some h
  refine noT_none (g.a b o f ?_ h1)
  cases q : B b with
  | none => rfl
  | some u =>
    exfalso
    have hu := g.s b u (g.g b u q)
    rw [g.h b o h1] at hu
    cases hu
    rw [noT_of q h2] at n
    cases n
/-- what is owed by a frame in which a table may grow -/
def PostN (w : Wd) (H0 B G : Hp) : M Oc → Ends → Prop
  | .ok (.nx env), D => ∀ σ' H' G', Grow (noT H0) (noT B) H' G' → Same (noT G) G' → Sim w (noT H0) env σ' H' G' → D.nx σ' H'
  | .ok (.ret r), D => ∀ v H' G', Grow (noT H0) (noT B) H' G' → Rr w H' G' v r → Fr (noT H0) v r → D.rt v H'
  | _, _ => False
theorem PostN.sub {H0 B G G1 : Hp} {m : M Oc} {D : Ends} (s : Same G G1) (h : PostN w H0 B G m D) : PostN w H0 B G1 m D := by
  cases m with
  | error e => exact h.elim
  | ok o =>
    cases o with
    | nx env => exact fun σ' H' G' g s' x => h σ' H' G' g ((noT_same s).trans s') x
    | ret r => exact h
    | _ => exact h.elim
theorem PostN.toS {H0 B G : Hp} {m : M Oc} {D : Ends} (h : PostN w H0 B G m D) : PostS w W (noT H0) (noT B) (noT G) m D := by
  cases m with
  | error e => exact h.elim
  | ok o =>
    cases o with
    | nx env => exact h
    | ret r => exact h
    | _ => exact h.elim
/-- the tables stand as at the beginning -/
def rdN (w : Wd) (T : List (Addr × Str)) (f : Sl → M Oc) : TS := fun D σ H => ∃ H0 B env G, Tabs T H0 ∧ Grow H0 B H G ∧ Sim w H0 env σ H G ∧ PostN w H0 B G (f env) D
/-- the tables have grown -/
def rdU (w : Wd) (W : WX) (T : List (Addr × Str)) (f : Sl → M Oc) : TS := fun D σ H => ∃ H0 B env G, Tabs T H ∧ (∀ b ps, H0 b ≠ some (.tbl ps)) ∧ (∀ b ps, G b ≠ some (.tbl ps)) ∧ Grow H0 B H G ∧ Sim w H0 env σ H G ∧ PostS w W H0 B G (f env) D
def sSeqT (g1 g2 : Sl → M Oc) : Sl → M Oc := fun env => match g1 env with
  | .ok (.nx e) => g2 e
  | _ => .error .stuck
section
variable {X : Cx} {st : Stmt} {rest : List Stmt} {T : List (Addr × Str)} {g g1 g2 : Sl → M Oc}
theorem xssN_cons (h1 : PS X st (rdS w W g1)) (h2 : PSs X rest (rdN w T g2)) : PSs X (st :: rest) (rdN w T (sSeqT g1 g2)) := by
  refine PSsi (pss_cons h1 h2) fun D σ H h => ?_
  obtain ⟨H0, B, env, G, t, g, x, h⟩ := h
  refine ⟨H0, B, env, G, g, x, ?_⟩
  unfold sSeqT at h
  split at h
  · rename_i e e1
    rw [e1]
    exact fun σ' H' G' gg s x' => ⟨H0, B, e, G', t, gg, x', h.sub s⟩
  · exact h.elim
/-- from the one to the other -/
def sPl (g : Sl → M Oc) : Sl → M Oc := fun env => if plS env = true then g env else .error .stuck
theorem xssN_U (h : PSs X rest (rdU w W T g)) : PSs X rest (rdN w T (sPl g)) := by
  refine PSsi h fun D σ H h => ?_
  obtain ⟨H0, B, env, G, t, gr, x, h⟩ := h
  unfold sPl at h
  split at h
  · rename_i hp
    refine ⟨noT H0, noT B, env, noT G, t.ext fun b o z => gr.h b o z, fun b ps z => (noT_some z).2 ps rfl, fun b ps z => (noT_some z).2 ps rfl, gr.noT (ExtN.refl H), x.noT hp (ExtN.refl H) (Same.refl _) fun b o _ _ n _ => noT_none n, h.toS⟩
  · exact h.elim
theorem xssU_S (h : PSs X rest (rdS w W g)) : PSs X rest (rdU w W T g) := PSsi h fun D σ H ⟨H0, B, env, G, _, _, _, gr, x, h⟩ => ⟨H0, B, env, G, gr, x, h⟩
end
end Vs
end
section
namespace Vs
open PySem PySem.Spec PyProof.Rows L2
open LamX (ExtN Tabs TabS TabB)
variable {w : Wd} {W : WX}
/-! ## x = sorted(xs, key=lambda y: len(y[1]))[0] -/
def kyD : PD → Option Nat
  | .tuple [_, .list ys] => some ys.length
  | _ => none
def kyLe (b : Bool) (x y : PD) : Bool := skLe b ((kyD x).getD 0) ((kyD y).getD 0)
def skPick (b : Bool) (xs : List PD) : Option PD := if (xs.all fun d => (kyD d).isSome) = true ∧ xs.length ≤ big then (xs.mergeSort (kyLe b))[0]? else none
def sSK (i j : Nat) (b : Bool) : Sl → M Oc := fun env => if plS env = true ∧ i < env.length then (match env[j]? with
  | some (some (.l _ xs)) => (match skPick b xs with
    | some d => .ok (.nx (env.set i (some (.d d))))
    | none => .error .stuck)
  | some (some (.d (.list xs))) => (match skPick b xs with
    | some d => .ok (.nx (env.set i (some (.d d))))
    | none => .error .stuck)
  | _ => .error .stuck) else .error .stuck
theorem ky_of {G : Hp} {v : V} {d : PD} (r : Rp G v d) {n : Nat} (h : kyD d = some n) : ∃ t a l us, v = .ref t ∧ G t = some (.tup [a, .ref l]) ∧ G l = some (.lst us) ∧ us.length = n := by
  unfold kyD at h
  split at h
  · rename_i x ys
    cases h
    cases r with
    | tup h1 h2 =>
      cases h2 with
      | cons r1 r2 =>
        cases r2 with
        | cons r3 r4 =>
          cases r4
          cases r3 with
          | lst h5 h6 => exact ⟨_, _, _, _, rfl, h1, h5, h6.length⟩
  · cases h
theorem ky_list {G : Hp} : ∀ {xs : List PD} {vs : List V}, RpL G vs xs → (xs.all fun d => (kyD d).isSome) = true → ∃ bs : List (Addr × PD), vs = bs.map (fun q => V.ref q.1) ∧ bs.map (fun q => q.2) = xs ∧ ∀ q ∈ bs, Rp G (.ref q.1) q.2 ∧ (kyD q.2).isSome = true
  | [], _, h, _ => by
    cases h
    exact ⟨[], rfl, rfl, fun q hq => nomatch hq⟩
  | x :: xs, _, h, k => by
    cases h with
    | cons h1 h2 =>
      rw [List.all_cons, Bool.and_eq_true] at k
      obtain ⟨n, hn⟩ := Option.isSome_iff_exists.mp k.1
      obtain ⟨t, a, l, us, rfl, _⟩ := ky_of h1 hn
      obtain ⟨bs, e1, e2, e3⟩ := ky_list h2 k.2
      refine ⟨(t, x) :: bs, by rw [e1]; rfl, by rw [List.map_cons, e2], fun q hq => ?_⟩
      rcases List.mem_cons.mp hq with rfl | hq
      · exact ⟨h1, k.1⟩
      · exact e3 q hq
theorem sk_sort (b : Bool) (bs : List (Addr × PD)) : ((bs.map fun q => (q.1, (kyD q.2).getD 0)).mergeSort fun x y => skLe b x.2 y.2).map (fun q => V.ref q.1) = (bs.mergeSort fun x y => kyLe b x.2 y.2).map fun q => V.ref q.1 := by
  rw [← List.map_mergeSort (r := fun x y : Addr × PD => kyLe b x.2 y.2) (f := fun q : Addr × PD => (q.1, (kyD q.2).getD 0)) (fun _ _ _ _ => rfl), List.map_map]
  rfl
theorem sk_head {b : Bool} {bs : List (Addr × PD)} {d : PD} (h : ((bs.map fun q => q.2).mergeSort (kyLe b))[0]? = some d) : ∃ q ∈ bs, (bs.mergeSort fun x y => kyLe b x.2 y.2)[0]? = some q ∧ q.2 = d := by
  rw [← List.map_mergeSort (r := fun x y : Addr × PD => kyLe b x.2 y.2) (f := fun q : Addr × PD => q.2) (fun _ _ _ _ => rfl), List.getElem?_map, Option.map_eq_some_iff] at h
  obtain ⟨q, h1, h2⟩ := h
  exact ⟨q, (List.mergeSort_perm bs _).mem_iff.mp (List.mem_of_getElem? h1), h1, h2⟩
section
variable {X : Cx} {st : Stmt} {rest : List Stmt} {T : List (Addr × Str)} {g g1 g2 : Sl → M Oc}
theorem xssU_sk {c P : Addr} {b : Bool} {x y z : Str} {params : Arguments} {body : Expr} {scope : Scope} {p1 py lpos kpos cpos ip sp pos pos' : Pos} {i j jj : Nat} (hK : X.K = w.K) (TB : TabB X.base X.mg c P) (hcode : X.env.code = .ref c)
    (hm : (P, X.env.qual ++ "<lambda>") ∈ T) (hu : ∀ p ∈ T, p.1 = P → p.2 = X.env.qual ++ "<lambda>") (hdef : defaultsOf params X.env = ([], [])) (hfree : ∀ y ∈ scope.names, y.2 ≠ .free) (hcl : cloFrom X.env.cells scope.names [] = [])
    (S : FnScope [z] [z] scope) (hb : ∀ pm c' ctv u, bindArgs (PySem.W.kla_fn "<lambda>" (X.env.qual ++ "<lambda>") params body scope [] pm (.ref c') ctv) ⟨[u], []⟩ = pure [(z, u)]) (hgl : scope.names.lookup (Str.ofString "len") = some .globalImplicit) (hml : X.mg "len" = none)
    (B : KeyB z b body) (hl0 : scope.names.lookup z = some .local) (hd : (z == ("__debug__" : Str)) = false) (hcd : (z == ("__classdict__" : Str)) = false)
    (hr : Room 4 X.A) (hg : Gl X "sorted") (hms : X.mg "sorted" = none) (hN : X.N.Nodup) (hi : X.N[i]? = some x) (hx : Loc X.env.scope x) (hj : PE X (.Name y py) (tVar j))
    (he : backTo cpos (starEach [.Name y py] X.env) = (false, eval (.Name y py) X.env) :: backTo cpos (starEach [] X.env) := by rfl) (hpl : (backTo cpos (starEach [.Name y py] X.env)).any (·.1) = false := by rfl)
    (hs : swapsWith (.Subscript (.Call (.Name "sorted" p1) [.Name y py] [⟨some "key", .Lambda params body scope lpos, kpos⟩] cpos) (.Constant (.int 0) jj ip) sp) (some (.Name x pos')) pos.line X.env = pure false := by rfl)
    (hf : X.fn x = true ∨ X.env.scope.names.lookup x = some .local := by first | exact .inl rfl | exact .inr rfl | assumption)
    (hrest : PSs X rest (rdU w W T g2)) : PSs X (.Assign [.Name x pos'] (.Subscript (.Call (.Name "sorted" p1) [.Name y py] [⟨some "key", .Lambda params body scope lpos, kpos⟩] cpos) (.Constant (.int 0) jj ip) sp) pos :: rest) (rdU w W T (sSeqT (sSK i j b) g2)) := by
  refine PSsi (pss_cons (ps_set hN hi hx (pe_ix ix_list (pe_sortKey TB hcode hm hu hdef hfree hcl S hb hgl hml B hl0 hd hcd hr hg hms (pa_cons hj pa_nil) he hpl) pe_int (fun _ _ => by with_unfolding_all rfl)) hs hf) hrest) fun D σ H h => ?_
  obtain ⟨H0, B0, env, G, t, n0, nG, gr, x0, h⟩ := h
  -- the list, wherever it stands
  have go : ∀ (xs : List PD) (d : PD) (l : Addr) (vs : List V), σ[j]? = some (some (.ref l)) → H l = some (.lst vs) → RpL G vs xs → plS env = true → i < env.length → skPick b xs = some d → PostS w W H0 B0 G (g2 (env.set i (some (.d d)))) D →
      tSeq (tAsg (tOp (rIxL X.K) (tSK X.K T b (tVar j)) (tC (.int 0))) (gName i)) (rdU w W T g2) D σ H := by
    intro xs d l vs hv hl hr2 hp hil hpick hpost
    unfold skPick at hpick
    split at hpick
    · rename_i hc
      obtain ⟨bs, e1, e2, e3⟩ := ky_list hr2 hc.1
      have lenb : bs.length = xs.length := by rw [← e2, List.length_map]
      refine ⟨.ref l, hv, l, bs.map fun q => (q.1, (kyD q.2).getD 0), rfl, ?_, fun q hq => ?_, t, fun p H2 ex t2 n2 => ?_⟩
      · refine .inl (.inl ?_)
        rw [hl, e1, List.map_map]
        rfl
      · obtain ⟨q', hq', rfl⟩ := List.mem_map.mp hq
        obtain ⟨r1, k1⟩ := e3 q' hq'
        obtain ⟨n, hn⟩ := Option.isSome_iff_exists.mp k1
        obtain ⟨t', a, l2, us, z1, z2, z3, z4⟩ := ky_of r1 hn
        cases z1
        refine ⟨a, l2, us, SqT.of (gr.s _ _ z2), SqL.of (gr.s _ _ z3), ?_⟩
        show us.length = (kyD q'.2).getD 0
        rw [hn]
        exact z4
      · rw [sk_sort]
        rw [← e2] at hpick
        obtain ⟨q, hq, q1, q2⟩ := sk_head hpick
        have rq := (e3 q hq).1
        rw [q2] at rq
        refine ⟨p, _, 0, .ref q.1, rfl, rfl, SqL.of upd_same, ?_, ?_⟩
        · have : ((bs.mergeSort fun x y => kyLe b x.2 y.2).map fun q => V.ref q.1)[0]? = some (.ref q.1) := by rw [List.getElem?_map, q1]; rfl
          exact atI_nat (j := 0) this
        · have ex3 : ExtN H (upd H2 p (.lst ((bs.mergeSort fun x y => kyLe b x.2 y.2).map fun q => V.ref q.1))) := fun a u z nt => by
            have z2 := ex a u z nt
            rw [upd_ne (ne_of_none z2 n2)]
            exact z2
          have ng : noT G = G := by
            funext a
            cases e : G a with
            | none => exact noT_none e
            | some u => exact noT_of e fun ps z => nG a ps (by rw [e, z])
          have nh : noT H0 = H0 := by
            funext a
            cases e : H0 a with
            | none => exact noT_none e
            | some u => exact noT_of e fun ps z => n0 a ps (by rw [e, z])
          have gr3 : Grow H0 B0 (upd H2 p (.lst ((bs.mergeSort fun x y => kyLe b x.2 y.2).map fun q => V.ref q.1))) G := by
            refine ⟨fun a u z => ex3 a u (gr.h a u z) fun ps e => n0 a ps (by rw [z, e]), gr.g, fun a u z => ex3 a u (gr.s a u z) fun ps e => nG a ps (by rw [z, e]), gr.a⟩
          have x3 : Sim w H0 env σ (upd H2 p (.lst ((bs.mergeSort fun x y => kyLe b x.2 y.2).map fun q => V.ref q.1))) G := by
            have := x0.noT (G2 := G) hp ex3 (by rw [ng]; exact Same.refl G) fun b o _ _ n _ => n
            rw [nh] at this
            exact this
          refine ⟨H0, B0, env.set i (some (.d d)), G, t2.ext fun a u z => by rw [upd_ne (ne_of_none z n2)]; exact z, n0, nG, gr3, x3.set (r := .d d) hil rfl rq (fun a f => f.elim) (fun k r' v' a hj e1 s1 f1 _ => f1.elim), hpost⟩
    · cases hpick
  unfold sSeqT at h
  split at h
  · rename_i e0 e1
    unfold sSK at e1
    split at e1
    · rename_i hc
      split at e1
      · rename_i b1 xs ej
        split at e1
        · rename_i d ep
          cases e1
          obtain ⟨_, v, hv, ⟨l, vs, rfl, _, hl, hr2⟩, _⟩ := x0.at_ j _ ej
          exact go xs d l vs hv hl hr2 hc.1 hc.2 ep h
        · cases e1
      · rename_i xs ej
        split at e1
        · rename_i d ep
          cases e1
          obtain ⟨_, v, hv, rr, _⟩ := x0.at_ j _ ej
          cases rr with
          | lst h1 h2 => exact go xs d _ _ hv (gr.s _ _ h1) h2 hc.1 hc.2 ep h
        · cases e1
      · cases e1
    · cases e1
  · exact (h []).elim
end
end Vs
end
section
namespace Vs
open PySem PySem.Spec PyProof.Rows L2
open LamX (ExtN Tabs TabS TabB)
variable {w : Wd} {W : WX}
/-! ## a def that may write the table -/
def PostFN (w : Wd) (H B : Hp) : M R → VK → Prop
  | .ok r, Q => ∀ v H' G', Grow (noT H) (noT B) H' G' → Rr w H' G' v r → Fr (noT H) v r → Q v H'
  | .error _, _ => False
def spN (w : Wd) (T : List (Addr × Str)) (n : Nat) (m : List R → M R) : Sp := fun vs H Q _ => vs.length = n ∧ Tabs T H ∧ ∃ B rs, Same B H ∧ RrL w H B vs rs ∧ (∀ r ∈ rs, r.own = false) ∧ PostFN w H B (m rs) Q
def runN (n : Nat) (g : Sl → M Oc) (rs : List R) : M R := match g (startS n rs) with
  | .ok (.nx _) => .ok (.d .none)
  | .ok (.ret r) => .ok r
  | _ => .error .stuck
structure DfnN (P : Program) (wd : World) (w : Wd) (base : Heap) (T : List (Addr × Str)) (x : Str) (k n : Nat) (m : List R → M R) : Prop where
  ex : ∃ f fd ps, FnOk P wd w.K w.mg base (L2.CX P wd) k f fd ps (spN w T n m) ∧ w.mg x = some (.ref f) ∧ PySem.W.keepIn w.K (.ref f) = true ∧ Binds w.K fd ps []
theorem DfnN.mono {P : Program} {wd : World} {base : Heap} {T : List (Addr × Str)} {x : Str} {j k n : Nat} {m : List R → M R} (D : DfnN P wd w base T x j n m) (h : j ≤ k) : DfnN P wd w base T x k n m := by
  obtain ⟨f, fd, ps, F, a, b, c⟩ := D.ex
  exact ⟨f, fd, ps, F.mono h, a, b, c⟩
theorem fn_okN {P : Program} {wd : World} {base : Heap} {T : List (Addr × Str)} {x qual : Str} {st : Stmt} {f : Addr} {fd : FuncData} {N ps : List Str} {k n : Nat} {g : Sl → M Oc} (F : FunD w.K x qual (defArgs st) (defBody st) (defScope st) [] [] f fd) (S : FnScope N ps (defScope st)) (hn : ps.length = n)
    (body : ∀ (cdv : Value) (A : Around) (outer : List Env) (s : Shared) (H : Hp) (E : XK), cdv = fd.code → Room k (A.deeper (envOfC qual (defScope st) s.heap.objs.size f cdv)) →
      PSs (cxOf (L2.CX P wd) P wd w.K w.mg base N qual (defScope st) f cdv A outer s H E) (defBody st) (rdN w T g)) : FnOk P wd w.K w.mg base (L2.CX P wd) (k + 1) f fd ps (spN w T n (runN N.length g)) := by
  refine ⟨fun vs H Q E h => h.1.trans hn.symm, ?_⟩
  intro A outer s H args us vs Q E hr en hb rv hs
  obtain ⟨oc, od, dV, kV, doc, pm, an, cdv, ct, osl, e, lk, hcd, _, _⟩ := F.ex
  subst e
  have old : ∀ b o, base.get? b = some o → s.heap.get? b = some o := fun b o z => (en.bs b o z).1
  have kin := en.mod.kin.keeps old
  have nl := en.mod.nolimit.keeps old
  have loc : ∀ y ∈ ps.zip us, (defScope st).names.lookup y.1 = some .local ∨ ((defScope st).names.lookup y.1 = some .cell ∧ ((cellsFrom (s.heap.objs.size + 1) (defScope st).names []).lookup y.1).isSome = true) := by
    rintro ⟨n, v⟩ hy
    refine (S.par n (List.of_mem_zip hy).1).imp id fun q => ⟨q, PySem.W.cellsFrom_some _ _ _ (.inl q)⟩
  apply codeAny_call_function hr.depth (kin _ _ lk) rfl S.co S.gen rfl (PySem.W.codeRec_of kin hcd)
  apply hb
  apply wpAny_newFunctionEnv_cells S.kind loc
  intro env he s1 ic
  subst he
  refine ⟨nl.keeps ic.toInCall.keep, codeAny_func ?_⟩
  have pt := body cdv A outer s H E rfl (hr.deeper _)
  obtain ⟨hl, tb, B, rs, sB, rr, ho, h⟩ := hs
  have iv := inv_start (CX := L2.CX P wd) (E := E) S hr.hd en (hl.trans hn.symm) rv ic
  have qt : rdN w T g { nx := fun _ H' => Q .non H', rt := Q } (start N vs) H := by
    refine ⟨H, B, startS N.length rs, B, tb, Grow.refl sB, Sim.start sB rr ho, ?_⟩
    unfold runN at h
    split at h
    · rename_i env' e1
      rw [e1]
      exact fun σ' H' G' gg _ _ => h .non H' G' gg .non (Fr.no rfl)
    · rename_i r e1
      rw [e1]
      exact h
    · exact h.elim
  refine wpAny_mono (pt.run [] s1 (start N vs) H _ iv qt) ?_ fun _ _ z => z
  intro fl s' z
  cases fl with
  | next =>
    obtain ⟨σ', H', J, q⟩ := z
    exact ⟨.non, H', J.os, J.bare, J.base, J.hok, rfl, q⟩
  | ret u =>
    obtain ⟨v, σ', H', J, r, q⟩ := z
    exact ⟨v, H', J.os, J.bare, J.base, J.hok, r, q⟩
  | brk =>
    obtain ⟨_, _, _, q⟩ := z
    cases q
  | cont =>
    obtain ⟨_, _, _, q⟩ := z
    cases q
/-! ### x = f(a, b), f such a def -/
def R.isDat : R → Bool
  | .d _ => true
  | _ => false
def sDue (i n : Nat) (m : List R → M R) (fs : Sl → M (List R)) : Sl → M Oc := fun env => match fs env with
  | .ok rs => if plS env = true ∧ i < env.length ∧ rs.length = n ∧ (rs.all R.isDat) = true then (match m rs with
    | .ok (.d d) => .ok (.nx (env.set i (some (.d d))))
    | _ => .error .stuck) else .error .stuck
  | _ => .error .stuck
theorem RrL.len {H G : Hp} {vs : List V} {rs : List R} (h : RrL w H G vs rs) : vs.length = rs.length := by
  induction h with
  | nil => rfl
  | cons _ _ ih => simp [ih]
section
variable {X : Cx} {st : Stmt} {rest : List Stmt} {T : List (Addr × Str)} {g g1 g2 : Sl → M Oc} {e : Expr} {es : List Expr} {fs : Sl → M (List R)}
theorem xssN_due {x y : Str} {k n i : Nat} {m : List R → M R} {p pos pos' pos2 : Pos} (ok : w.Ok) (hK : X.K = w.K) (hM : X.mg = w.mg) (D : DfnN X.prog X.w w X.base T x k n m) (hr : Room k X.A) (tk : Takes X W) (hg : Gl X x) (ha : PA X (e :: es) (rdA w W fs)) (hN : X.N.Nodup) (hi : X.N[i]? = some y) (hy : Loc X.env.scope y)
    (hrest : PSs X rest (rdS w W g2)) (hdb : (x == ("__debug__" : Str)) = false := by decide)
    (he : starEach (e :: es) X.env = (false, eval e X.env) :: starEach es X.env := by rfl) (hpl : (backTo pos (starEach es X.env)).any (·.1) = false := by rfl)
    (hs : swapsWith (.Call (.Name x p) (e :: es) [] pos) (some (.Name y pos')) pos2.line X.env = pure false := by rfl) (hf : X.fn y = true ∨ X.env.scope.names.lookup y = some .local := by first | exact .inl rfl | exact .inr rfl | assumption) :
    PSs X (.Assign [.Name y pos'] (.Call (.Name x p) (e :: es) [] pos) pos2 :: rest) (rdN w T (sSeqT (sDue i n m fs) g2)) := by
  obtain ⟨f, fd, ps, F, hm, hk, hb⟩ := D.ex
  rw [← hK, ← hM] at F
  rw [← hM] at hm
  rw [← hK] at hk hb
  refine PSsi (pss_cons (ps_set hN hi hy (pe_callS F hr hg hm hk hb (fun σ => passAt tk σ) ha hdb he hpl) hs hf) hrest) fun Dn σ H h => ?_
  obtain ⟨H0, B, env, G, t, gr, x0, h⟩ := h
  unfold sSeqT sDue at h
  split at h
  · rename_i e1 h1
    split at h1
    · rename_i rs ers
      split at h1
      · rename_i c
        split at h1
        · rename_i d em
          cases h1
          refine ⟨H0, B, env, G, gr, x0, ?_⟩
          rw [ers]
          intro vs H1 G1 g1 rr fr
          have x1 := x0.grow ok g1
          refine ⟨rr.len.trans c.2.2.1, t.ext fun b o z => (gr.h.trans g1.h) b o z, G1, rs, g1.s, rr, fun r hr => ?_, ?_⟩
          · have := List.all_eq_true.mp c.2.2.2 r hr
            cases r <;> first | rfl | cases this
          · rw [em]
            intro v H' G' gg rv _
            have ext : ExtN H1 H' := fun b o z nt => gg.h b o (noT_of z nt)
            have g01 := (gr.trans g1).noT (ExtN.refl H1)
            have x2 := x1.noT c.1 ext gg.g fun b o f nt n z => gg.a b o f (noT_none n) (noT_of z nt)
            refine ⟨noT H0, noT B, env.set i (some (.d d)), G', ⟨fun b o z => gg.h b o (noT_of ((gr.trans g1).h b o (noT_some z).1) (noT_some z).2), g01.g.trans gg.g, gg.s, fun b o f n z => ?_⟩, x2.set (r := .d d) c.2.1 rfl rv (fun a f => f.elim) (fun k r' v' a hj e1 s1 f1 _ => f1.elim), PostS.sub ((noT_same g1.g).trans gg.g) h.toS⟩
            exact gg.a b o f (g01.a b o f n z) (noT_of ((gr.trans g1).h b o (noT_some z).1) (noT_some z).2)
        · cases h1
      · cases h1
    · cases h1
  · exact h.elim
end
/-! ### the law -/
theorem lawN_sp {T : List (Addr × Str)} {m : List R → M R} (M : ∀ ns : List Int, ns.length ≤ 63 → m [.s ns] = .ok (.d (.bool true))) {H : Hp} {a : Addr} {ns : List Int} (hl : ns.length ≤ 63) (hT : Tabs T H) (hS : SqL w.K H a (ns.map V.int)) :
    spN w T 1 m [.ref a] H (fun v _ => v = .bl true) fun _ _ _ => False := by
  refine ⟨rfl, hT, H, [.s ns], Same.refl H, .cons ⟨a, rfl, hS⟩ .nil, fun r hr => ?_, ?_⟩
  · rcases List.mem_cons.mp hr with rfl | hr
    · rfl
    · cases hr
  · rw [M ns hl]
    exact fun v H' G' _ rr _ => by cases rr; rfl
end Vs
end
section
namespace Vs
open PySem PySem.Spec PyProof.Rows L2
open LamX (ExtN Tabs TabS TabB LawAtS law_callTs)
/-! ## the end of a law, one def's table known -/
def TabOf (mg : Str → Option Value) (h : Heap) (dn : Str) : Prop := ∃ (a : Addr) (o : Obj) (fd : FuncData) (c P : Addr), mg dn = some (.ref a) ∧ h.get? a = some o ∧ o.data = .func fd ∧ fd.code = .ref c ∧ (∃ o vs, h.get? c = some o ∧ o.data = .fields vs ∧ vs[11]? = some (.ref P)) ∧ h.get? P = some { cls := .none, data := .fields #[] }
/-- what the head's fragment must tell of the def's code object -/
def codB (K : PySem.W.Frag) (c : Addr) (o : Obj) : Bool := match o.cls, o.data with
  | .type t, .fields vs => t == "code" && (match (vs[11]? : Option Value), vs.getD 11 Value.none, vs.getD 18 Value.none, vs.getD 7 Value.none, vs.getD 9 Value.none, vs.getD 10 Value.none with
    | some (Value.ref P), Value.ref P', Value.str _ _, Value.int _ _, Value.bool _, Value.int _ _ => P == P' && c != P && (K.lookup P).isNone
    | _, _, _, _, _, _ => false)
  | _, _ => false
def tabB (K : PySem.W.Frag) (dn : Str) : Bool := match K.lookup (He.ga K dn) with
  | some o => (match o.data with
    | .func fd => (match fd.code with
      | .ref c => (match K.lookup c with
        | some oc => codB K c oc
        | none => false)
      | _ => false)
    | _ => false)
  | none => false
theorem codB_ok {K : PySem.W.Frag} {h : Heap} {c P : Addr} {o : Obj} {vs : Array Value} (hb : codB K c o = true) (ho : h.get? c = some o) (hd : o.data = .fields vs) (hP : vs[11]? = some (.ref P)) : PySem.W.CodeHd h c P ∧ K.lookup P = none := by
  unfold codB at hb
  rw [hd] at hb
  split at hb
  · rename_i t vs' e1 e2
    cases e2
    rw [Bool.and_eq_true] at hb
    obtain ⟨h1, h2⟩ := hb
    split at h2
    · rename_i P1 P2 z1 t1 z2 t2 z3 z4 t4 q1 q2 q3 q4 q5 q6
      rw [hP] at q1
      cases q1
      simp only [Bool.and_eq_true, beq_iff_eq, bne_iff_ne, Option.isNone_iff_eq_none] at h2
      obtain ⟨⟨h3, h4⟩, h5⟩ := h2
      subst h3
      exact ⟨⟨o, vs, _, _, _, _, _, _, _, ho, by rw [e1, beq_iff_eq.mp h1], hd, hP, q2, q3, q4, q5, q6, h4⟩, h5⟩
    · cases h2
  · cases hb
theorem tab_at {K : PySem.W.Frag} {h : Heap} {mg : Str → Option Value} {dn : Str} (KX : K.In h) (hb : tabB K dn = true) (hm : mg dn = some (.ref (He.ga K dn))) (t : TabOf mg h dn) :
    ∃ (c P : Addr) (fd : FuncData), (∃ o, K.lookup (He.ga K dn) = some o ∧ o.data = .func fd) ∧ fd.code = .ref c ∧ PySem.W.CodeHd h c P ∧ h.get? P = some { cls := .none, data := .fields #[] } ∧ K.lookup P = none := by
  obtain ⟨a, o, fd, c, P, h1, h2, h3, h4, ⟨oc, vs, h5, h6, h7⟩, h8⟩ := t
  rw [hm] at h1
  cases h1
  unfold tabB at hb
  split at hb
  · rename_i o1 l1
    have g1 := KX _ _ l1
    rw [h2] at g1
    cases g1
    rw [h3] at hb
    dsimp only at hb
    rw [h4] at hb
    dsimp only at hb
    split at hb
    · rename_i oc1 l2
      have g2 := KX _ _ l2
      rw [h5] at g2
      cases g2
      obtain ⟨r1, r2⟩ := codB_ok hb h5 h6 h7
      exact ⟨c, P, fd, ⟨o, l1, h3⟩, h4, r1, h8, r2⟩
    · cases hb
  · cases hb
theorem walk_ofTb {l : PySem.W.OpenLaw} {n k : Nat} {q : Program} {loose : List Str} {XP : (Str → Option Value) → Heap → Prop} {YP : World → Heap → Prop} {d : DefRec} {CX : World → CXT} {x : Str} (dn : Str)
    (hn : l.most = some n) (hn2 : n ≤ sizeLine) (hdf : d.params.defaults = []) (hr : Room k callerA) (hrec : ((recsOf q).any fun e => e.name == dn) = true)
    (F : ∀ (w : World) (mg : Str → Option Value) (fa : Addr) (h : Heap), YP w h → h.Ns mainGlobals mg → mg d.name = some (.ref fa) → TabOf mg h dn → ∃ K : PySem.W.Frag, K.In h ∧ LawAtS l w K (CX w) k n x mg fa h)
    (hCX : ∀ (w : World) (H : Hp) (s : Shared) (e : Value) (s' : Shared), CX w [] H s (fun _ _ _ => False) e s' → False) :
    PySem.W.WalkO q loose XP YP l.row.toRowW d [] (fun f vs => PySem.call f vs) := by
  refine Att.attach_callB hn hdf fun w s₀ s₁ mg mb fa o pm cd doc a vs ns G Y ho hd hcd hmg hobj hints hlen hbits hg => ?_
  have tb : TabOf mg s₁.heap dn := by
    obtain ⟨dL, hm, hn1⟩ := List.any_eq_true.mp hrec
    have hn2 : dL.name = dn := beq_iff_eq.mp hn1
    obtain ⟨a', o', fd', c', P', h1, h2, h3, h4, h5, h6⟩ := G.T.tab dL hm
    rw [hn2] at h1
    obtain ⟨⟨oc, vc, e1, _, e3, e4⟩, hP⟩ := h6
    exact ⟨a', o', fd', c', P', h1, h2, h3, h4, ⟨oc, vc, e1, e3, e4⟩, hP⟩
  obtain ⟨K, KX, fd, cs, sp, hT, nT, C, hb, hsp, hF⟩ := F w mg fa _ Y G.T.g hmg tb
  exact law_callTs KX G.T.g G.T.b G.T.builtins G.T.nolimit hg hT nT C G.T.bmain hobj hints (Nat.le_trans hlen hn2) hr hF hb (fun H hH hS => hsp H a ns hlen hbits hH hS) fun H e s' => hCX w H s₁ e s'
end Vs
end
section
namespace Vs
open PySem PySem.Spec PyProof.Rows L2
open LamX (ExtN Tabs TabS TabB)
/-- the def's object, as the head's fragment holds it -/
theorem FunD_look {K : PySem.W.Frag} {x qual : Str} {params : Arguments} {body : List Stmt} {scope : Scope} {dvs : List V} {kws : List (Str × V)} {f : Addr} {fd : FuncData} (F : FunD K x qual params body scope dvs kws f fd) : ∃ o : Obj, K.lookup f = some o ∧ o.data = .func fd := by
  obtain ⟨oc, od, dV, kV, doc, pm, an, cdv, ct, osl, e, lk, _⟩ := F.ex
  subst e
  exact ⟨_, lk, rfl⟩
theorem Sim.frzG {w : Wd} {H0 B : Hp} {env : Sl} {σ : L2.St} {H G : Hp} {i : Nat} {b : Bool} {xs : List PD} (ok : w.Ok) (gg : Grow H0 B H G) (x : Sim w H0 env σ H G) (e1 : env[i]? = some (some (.l b xs))) : ∃ G2, Same G G2 ∧ Grow H0 B H G2 ∧ Sim w H0 (env.set i (some (.d (.list xs)))) σ H G2 := by
  obtain ⟨hh, v, hv, rr, h0⟩ := x.at_ i _ e1
  obtain ⟨p, vs, rfl, nG, h1, h2⟩ := rr
  have n0 := h0 p rfl
  have hi : i < env.length := (List.getElem?_eq_some_iff.mp e1).1
  have sG : Same G (upd G p (.lst vs)) := Same.new nG
  have g2 : Grow H0 B H (upd G p (.lst vs)) := gg.keep n0 h1 nG
  have off : ∀ {j : Nat} {r1 : R} {u : V}, j ≠ i → env[j]? = some (some r1) → σ[j]? = some (some u) → ∀ a, foot H r1 u a → a ≠ p := fun {j r1 u} hj e2 s1 a f z => hj (by
    subst z
    exact x.inj j i r1 _ u _ a e2 e1 s1 hv f rfl)
  refine ⟨upd G p (.lst vs), sG, g2, ⟨by simp [x.len], fun j r1 e2 => ?_, fun j k r1 r2 u1 u2 y e2 e3 s1 s2 f1 f2 => ?_⟩⟩
  · by_cases hj : j = i
    · subst hj
      rw [List.getElem?_set_self hi] at e2
      cases e2
      exact ⟨rfl, _, hv, Rp.lst upd_same (RpL.mono sG _ _ h2), fun _ q => q.elim⟩
    · rw [List.getElem?_set_ne (Ne.symm hj)] at e2
      obtain ⟨a, u, c, d, f⟩ := x.at_ j r1 e2
      refine ⟨a, u, c, ?_, f⟩
      have of := off hj e2 c
      cases r1 with
      | l b2 ys => obtain ⟨q, us, rfl, n, a1, a2⟩ := d; exact ⟨q, us, rfl, by rw [upd_ne (of q rfl)]; exact n, a1, RpL.mono sG _ _ a2⟩
      | T b2 ys => obtain ⟨q, us, rfl, n, a1, a3, a2⟩ := d; exact ⟨q, us, rfl, by rw [upd_ne (of q rfl)]; exact n, a1, a3, RpL.mono sG _ _ a2⟩
      | M b2 ys => obtain ⟨q, us, rfl, n, a1, a3, a2⟩ := d; exact ⟨q, us, rfl, by rw [upd_ne (of q rfl)]; exact n, a1, a3, RpL.mono sG _ _ a2⟩
      | io z fs => obtain ⟨q, C, dx, vf, e4, m, a1, a2⟩ := d; exact ⟨q, C, dx, vf, e4, m, sG _ _ a1, a2.mono sG⟩
      | q => obtain ⟨q, e4, a1⟩ := d; exact ⟨q, e4, sG _ _ a1⟩
      | lk b2 ys => obtain ⟨us, rfl, n, a1, a2⟩ := d; exact ⟨us, rfl, by rw [upd_ne (of _ rfl)]; exact n, a1, RpL.mono sG _ _ a2⟩
      | o op z fs => obtain ⟨q, C, dx, vf, rfl, oq, m, n, a1, a2⟩ := d; exact ⟨q, C, dx, vf, rfl, oq, m, by rw [upd_ne (of q (.inl rfl))]; exact n, a1, a2.good nG fun g hm => of p (.inr ⟨q, C, dx, vf, g, rfl, a1, hm⟩) rfl⟩
      | D fs => obtain ⟨q, kv, rfl, n, a1, a2⟩ := d; exact ⟨q, kv, rfl, by rw [upd_ne (of q (.inl rfl))]; exact n, a1, a2.good nG fun g hm => of p (.inr ⟨q, kv, g, rfl, a1, hm⟩) rfl⟩
      | d y => exact Rp.mono sG _ _ d
      | s ns => obtain ⟨q, e4, a1⟩ := d; exact ⟨q, e4, sG.seq a1⟩
      | z ys => obtain ⟨q, e4, a1⟩ := d; exact ⟨q, e4, ok.seto _ _ _ _ sG a1⟩
      | e y z => obtain ⟨q, e4, a1⟩ := d; exact ⟨q, e4, ok.exo _ _ _ _ _ sG a1⟩
      | f y => exact d
  · have low : ∀ {l : Nat} {r3 : R} {u : V}, (env.set i (some (.d (.list xs))))[l]? = some (some r3) → foot H r3 u y → l ≠ i ∧ env[l]? = some (some r3) := fun {l r3 u} q1 q2 => by
      by_cases hl : l = i
      · subst hl
        rw [List.getElem?_set_self hi] at q1
        cases q1
        exact q2.elim
      · rw [List.getElem?_set_ne (Ne.symm hl)] at q1
        exact ⟨hl, q1⟩
    obtain ⟨_, e2⟩ := low e2 f1
    obtain ⟨_, e3⟩ := low e3 f2
    exact x.inj j k r1 r2 u1 u2 y e2 e3 s1 s2 f1 f2
theorem xssN_frz {w : Wd} {X : Cx} {T : List (Addr × Str)} {g : Sl → M Oc} (i : Nat) (ok : w.Ok) {sts : List Stmt} (h : PSs X sts (rdN w T g)) : PSs X sts (rdN w T (sSeqT (sFrz i) g)) := by
  refine PSsi h fun D σ H h => ?_
  obtain ⟨H0, B, env, G, t, gg, x, h⟩ := h
  unfold sSeqT sFrz at h
  split at h
  · rename_i e0 e1
    split at e1
    · rename_i b xs e2
      cases e1
      obtain ⟨G2, s, g2, x2⟩ := x.frzG ok gg e2
      exact ⟨H0, B, _, G2, t, g2, x2, h.sub s⟩
    · cases e1
  · exact h.elim
end Vs
end
section
namespace Vs
open PySem PySem.Spec PyProof.Rows L2
/-! ## the head's hook, the tables of code objects left out -/
def isCd (o : Obj) : Bool := match o.cls with
  | .type t => t == "code"
  | _ => false
/-- what an object names, but for a code object's own -/
def refsT (o : Obj) : List Addr := if isCd o then [] else He.refsD o
def newT (g : Addr → Option Obj) (seen fr : List Addr) : List Addr := ((fr.flatMap fun a => match g a with
  | some o => refsT o
  | none => []).eraseDups).filter fun a => !(seen.contains a || fr.contains a)
/-- what is reached in n steps, level by level -/
def asT (g : Addr → Option Obj) : Nat → List Addr → List Addr → List Addr
  | 0, seen, fr => seen ++ fr
  | n + 1, seen, fr => asT g n (seen ++ fr) (newT g seen fr)
def kT (n : Nat) (g : Addr → Option Obj) : PySem.W.Frag := He.frG g (asT g n [] [mainGlobals] ++ [cStatics])
theorem frG_mem {g : Addr → Option Obj} {a : Addr} {o : Obj} : ∀ {as : List Addr}, (a, o) ∈ He.frG g as → g a = some o := fun {as} h => by
  unfold He.frG at h
  obtain ⟨b, hb, e⟩ := List.mem_filterMap.mp h
  cases q : g b with
  | none => rw [q] at e; cases e
  | some u => rw [q] at e; cases e; exact q
theorem look_mem {o : Obj} {a : Addr} : ∀ {l : List (Addr × Obj)}, l.lookup a = some o → (a, o) ∈ l
  | [], h => by cases h
  | (b, u) :: l, h => by
    rw [List.lookup_cons] at h
    split at h
    · rename_i e
      cases h
      rw [beq_iff_eq.mp e]
      exact List.mem_cons_self
    · exact List.mem_cons_of_mem _ (look_mem h)
theorem kT_in {n : Nat} {h : Heap} : (kT n h.get?).In h := fun a o e => by
  have m : (a, o) ∈ kT n h.get? := look_mem e
  exact frG_mem m
def obsT (n : Nat) (fa : List He.Fa) (fn : List He.DefD) (ex : PySem.W.Frag → Bool) (g : Addr → Option Obj) : He.AlD × Bool := (He.obsD fa fn (kT n g), ex (kT n g))
def hookT (n : Nat) (fa : List He.Fa) (fn : List He.DefD) (ex : PySem.W.Frag → Bool) : PySem.W.Hook where
  α := He.AlD × Bool
  obs := fun s => obsT n fa fn ex s.heap.get?
  val := fun _ => (He.valD fn, true)
  says := fun _ h => ∃ K : PySem.W.Frag, K.In h ∧ He.SaysD fa fn K ∧ ex K = true
  of := fun _ _ e => ⟨_, kT_in, congrArg Prod.fst e, congrArg Prod.snd e⟩
  keeps := fun _ _ _ ⟨K, hK, c⟩ k => ⟨K, PySem.W.Frag.In.keeps hK k, c⟩
theorem obsT_eq {n : Nat} {fa : List He.Fa} {fn : List He.DefD} {ex : PySem.W.Frag → Bool} {g : Addr → Option Obj} {s : Shared} (h : ∀ a, g a = s.heap.get? a) : obsT n fa fn ex g = (hookT n fa fn ex).obs s := by
  have e : g = s.heap.get? := funext h
  rw [e]; rfl
/-! the run's equation, part by part -/
section
open HandSHeadRun PySem.W PySem.Calls
variable {r : OpenRow} {q : Program} {M : Nat} {loose : List PySem.Str} {w : World} {n : Nat} {fa : List He.Fa} {fn : List He.DefD} {ex : Frag → Bool}
theorem opt_pair {α β γ : Type} {o : Option α} {f : α → β} {g : α → γ} {b : β} {c : γ} (h1 : o.map f = some b) (h2 : o.map g = some c) : o.map (fun s => (f s, g s)) = some (b, c) := by
  cases o with
  | none => cases h1
  | some s => cases h1; cases h2; rfl
noncomputable def runT (r : OpenRow) (M : Nat) (w : World) (os : OsState) : Option SharedT := endF (stepQ (denQ tabQ) r.prog w) M r.prog w os
theorem runEqT (h1 : ∀ os, (runT r M w os).map (fun s => looksF r.prog (boot_heap w.params) s.abs) = some true)
    (h2 : ∀ os, (runT r M w os).map (fun s => seenQ q loose (importedModules r.prog.main.body) (fun s => xlAt q [] s && recOk r.toRowW.records s) s.abs) = some (openGood q loose))
    (h3 : ∀ os, (runT r M w os).map (fun s => fa.all fun f => f.ok (kT n (getT s))) = some true) (h4 : ∀ os, (runT r M w os).map (fun s => fn.all fun d => d.ok (kT n (getT s))) = some true)
    (h5 : ∀ os, (runT r M w os).map (fun s => fn.map fun d => He.fnW (kT n (getT s)) d.at_) = some (fn.map He.DefD.val)) (h6 : ∀ os, (runT r M w os).map (fun s => ex (kT n (getT s))) = some true) :
    RunEq r q (hookT n fa fn ex) (fun s => obsT n fa fn ex (getT s)) M loose w := fun os => by
  have a := h1 os
  have b := h2 os
  have c := h3 os
  have d := h4 os
  have e := h5 os
  have f := h6 os
  show (runT r M w os).map _ = _
  cases q9 : runT r M w os with
  | none => rw [q9] at a; cases a
  | some s =>
    rw [q9] at a b c d e f
    have a := Option.some.inj a
    have b := Option.some.inj b
    have c := Option.some.inj c
    have d := Option.some.inj d
    have e := Option.some.inj e
    have f := Option.some.inj f
    refine congrArg some ?_
    refine Prod.ext a (Prod.ext b ?_)
    refine Prod.ext (Prod.ext ?_ e) f
    show ((fa.all fun f => f.ok (kT n (getT s))) && fn.all fun d => d.ok (kT n (getT s))) = true
    exact Bool.and_eq_true_iff.mpr ⟨c, d⟩
end
end Vs
end
section
namespace Vs
open PySem PySem.Spec PyProof.Rows L2
open LamX (ExtN Tabs TabS TabB CodeO)
variable {w : Wd} {W : WX}
/-! ## frames in which the tables may grow, again and again -/
def noTb (H : Hp) : Prop := ∀ b ps, H b ≠ some (.tbl ps)
theorem noT_noTb (H : Hp) : noTb (noT H) := fun b ps z => (noT_some z).2 ps rfl
theorem noT_id {H : Hp} (h : noTb H) : noT H = H := by
  funext b
  unfold noT
  split
  · rename_i ps e
    exact absurd e (h b ps)
  · rfl
theorem noTb.sub {G H : Hp} (s : Same G H) (h : noTb H) : noTb G := fun b ps e => h b ps (s b _ e)
structure StZ (w : Wd) (T : List (Addr × Str)) (H0 B : Hp) (env : Sl) (σ : L2.St) (H G : Hp) : Prop where
  t : Tabs T H
  n0 : noTb H0
  nG : noTb G
  g : Grow H0 B H G
  x : Sim w H0 env σ H G
theorem StZ.nB {T : List (Addr × Str)} {H0 B : Hp} {env : Sl} {σ : L2.St} {H G : Hp} (z : StZ w T H0 B env σ H G) : noTb B := z.nG.sub z.g.g
/-- a step that keeps all -/
theorem StZ.more {T : List (Addr × Str)} {H0 B : Hp} {env : Sl} {σ : L2.St} {H G H' G' : Hp} (ok : w.Ok) (z : StZ w T H0 B env σ H G) (hp : plS env = true) (g1 : Grow H G H' G') : StZ w T H0 B env σ H' (noT G') ∧ Same G (noT G') := by
  refine ⟨⟨z.t.ext g1.h, z.n0, noT_noTb G', ?_, ?_⟩, fun b o e => noT_of (g1.g b o e) fun ps q => z.nG b ps (by rw [← q]; exact e)⟩
  · have := (z.g.trans g1).noT (ExtN.refl H')
    rw [noT_id z.n0, noT_id z.nB] at this
    exact this
  · have := (z.x.grow ok g1).noT hp (ExtN.refl H') (Same.refl (noT G')) fun b o _ _ n _ => noT_none n
    rw [noT_id z.n0] at this
    exact this
theorem Rr.noTG {H G : Hp} {r : R} {v : V} (hp : r.pl = true) (h : Rr w H G v r) : Rr w H (Vs.noT G) v r := Rr.noT hp h (ExtN.refl H) (Same.refl _) fun _ _ _ _ n _ => noT_none n
/-! ### what stays in a statement that may write own things -/
def stayO : HO → Bool
  | .tbl _ => true
  | .ext _ => true
  | _ => false
def fixT (H0 H G : Hp) : Hp := fun b => if (G b).isNone && ((H b).any stayO) then H b else H0 b
theorem fixT_sub {H0 H G : Hp} (s : Same H0 H) : Same H0 (fixT H0 H G) := fun b o e => by
  unfold fixT
  split
  · exact s b o e
  · exact e
theorem fixT_top {H0 H G : Hp} (s : Same H0 H) : Same (fixT H0 H G) H := fun b o e => by
  unfold fixT at e
  split at e
  · exact e
  · exact s b o e
theorem fixT_in {H0 H G : Hp} {b : Addr} {o : HO} (n : G b = none) (e : H b = some o) (k : stayO o = true) : fixT H0 H G b = some o := by
  unfold fixT
  rw [if_pos (by rw [n, e]; simp [k])]
  exact e
theorem tabs_fix {T : List (Addr × Str)} {H0 B H G H' G' : Hp} (t : Tabs T H) (nG : noTb G) (gs : Same G H) (g : Grow (fixT H0 H G) B H' G') (s : Same G G') : Tabs T H' := fun p hp => by
  obtain ⟨ps, h1, h2, h3⟩ := t p hp
  have up : ∀ {b : Addr} {o : HO}, H b = some o → stayO o = true → H' b = some o := fun {b o} e k => by
    cases q : G b with
    | none => exact g.h b o (fixT_in q e k)
    | some u =>
      have := gs b u q
      rw [e] at this
      cases this
      exact g.s b _ (s b _ q)
  refine ⟨ps, up h1 rfl, h2, fun pos cv hc => ?_⟩
  obtain ⟨c, e1, e2⟩ := h3 pos cv hc
  exact ⟨c, e1, up e2 rfl⟩
theorem foot_kind {H G : Hp} {r : R} {v : V} {a : Addr} (hp : r.pl = true) (h : Rr w H G v r) (f : foot H r v a) : G a = none ∧ ∃ o, H a = some o ∧ stayO o = false := by
  obtain ⟨n, _⟩ := foot_has h f
  refine ⟨n, ?_⟩
  cases r with
  | l b xs => obtain ⟨p, vs, rfl, _, hq, _⟩ := h; cases f; exact ⟨_, hq, rfl⟩
  | T b kvs => obtain ⟨p, kv, rfl, _, hq, _, _⟩ := h; cases f; exact ⟨_, hq, rfl⟩
  | M b kvs => obtain ⟨p, kv, rfl, _, hq, _, _⟩ := h; cases f; exact ⟨_, hq, rfl⟩
  | d _ => exact f.elim
  | s _ => exact f.elim
  | _ => cases hp
theorem StZ.fix {T : List (Addr × Str)} {H0 B : Hp} {env : Sl} {σ : L2.St} {H G : Hp} (z : StZ w T H0 B env σ H G) (hp : plS env = true) : Grow (fixT H0 H G) B H G ∧ Sim w (fixT H0 H G) env σ H G := by
  refine ⟨⟨fixT_top z.g.h, z.g.g, z.g.s, fun b o f n e => ?_⟩, z.x.len, fun i r e => ?_, z.x.inj⟩
  · unfold fixT at e
    split at e
    · rename_i c
      simp only [Bool.and_eq_true, Option.isNone_iff_eq_none] at c
      exact c.1
    · exact z.g.a b o f n e
  · obtain ⟨a, v, b, c, d⟩ := z.x.at_ i r e
    refine ⟨a, v, b, c, fun y f => ?_⟩
    obtain ⟨nG, o, ho, k⟩ := foot_kind (plS_at hp e) c f
    unfold fixT
    rw [if_neg (by rw [ho]; simp [k])]
    exact d y f
theorem Grow.subN {H0 H1 B H G : Hp} (s : Same H0 H1) (g : Grow H1 B H G) : Grow H0 B H G := ⟨fun b o e => g.h b o (s b o e), g.g, g.s, fun b o f n e => g.a b o f n (s b o e)⟩
theorem Same.none {H0 H1 : Hp} (s : Same H0 H1) {b : Addr} (h : H1 b = none) : H0 b = none := by
  cases q : H0 b with
  | none => rfl
  | some u => rw [s b u q] at h; cases h
theorem StZ.back {T : List (Addr × Str)} {H0 B : Hp} {env env' : Sl} {σ σ' : L2.St} {H G H' G' : Hp} (z : StZ w T H0 B env σ H G) (g : Grow (fixT H0 H G) B H' G') (s : Same G G') (x : Sim w (fixT H0 H G) env' σ' H' G') (hp : plS env' = true) :
    StZ w T H0 B env' σ' H' (noT G') ∧ Same G (noT G') := by
  have g1 := g.subN (fixT_sub (G := G) z.g.h)
  refine ⟨⟨tabs_fix z.t z.nG z.g.s g s, z.n0, noT_noTb G', ?_, ?_⟩, fun b o e => noT_of (s b o e) fun ps q => z.nG b ps (by rw [← q]; exact e)⟩
  · have := g1.noT (ExtN.refl H')
    rw [noT_id z.n0, noT_id z.nB] at this
    exact this
  · have := (x.base fun b => Same.none (fixT_sub z.g.h)).noT hp (ExtN.refl H') (Same.refl (noT G')) fun b o _ _ n _ => noT_none n
    rw [noT_id z.n0] at this
    exact this
/-- something apart comes to the part for good -/
theorem Rr.good {H G : Hp} {p : Addr} {o : HO} (ok : w.Ok) (nG : G p = none) {r : R} {v : V} (off : ∀ a, foot H r v a → a ≠ p) (d : Rr w H G v r) : Rr w H (upd G p o) v r := by
  have sG : Same G (upd G p o) := Same.new nG
  cases r with
  | l b2 ys => obtain ⟨q, us, rfl, n, a1, a2⟩ := d; exact ⟨q, us, rfl, by rw [upd_ne (off q rfl)]; exact n, a1, RpL.mono sG _ _ a2⟩
  | T b2 ys => obtain ⟨q, us, rfl, n, a1, a3, a2⟩ := d; exact ⟨q, us, rfl, by rw [upd_ne (off q rfl)]; exact n, a1, a3, RpL.mono sG _ _ a2⟩
  | M b2 ys => obtain ⟨q, us, rfl, n, a1, a3, a2⟩ := d; exact ⟨q, us, rfl, by rw [upd_ne (off q rfl)]; exact n, a1, a3, RpL.mono sG _ _ a2⟩
  | io z fs => obtain ⟨q, C, dx, vf, e4, m, a1, a2⟩ := d; exact ⟨q, C, dx, vf, e4, m, sG _ _ a1, a2.mono sG⟩
  | q => obtain ⟨q, e4, a1⟩ := d; exact ⟨q, e4, sG _ _ a1⟩
  | lk b2 ys => obtain ⟨us, rfl, n, a1, a2⟩ := d; exact ⟨us, rfl, by rw [upd_ne (off _ rfl)]; exact n, a1, RpL.mono sG _ _ a2⟩
  | o op z fs => obtain ⟨q, C, dx, vf, rfl, oq, m, n, a1, a2⟩ := d; exact ⟨q, C, dx, vf, rfl, oq, m, by rw [upd_ne (off q (.inl rfl))]; exact n, a1, a2.good nG fun g hm => off p (.inr ⟨q, C, dx, vf, g, rfl, a1, hm⟩) rfl⟩
  | D fs => obtain ⟨q, kv, rfl, n, a1, a2⟩ := d; exact ⟨q, kv, rfl, by rw [upd_ne (off q (.inl rfl))]; exact n, a1, a2.good nG fun g hm => off p (.inr ⟨q, kv, g, rfl, a1, hm⟩) rfl⟩
  | d y => exact Rp.mono sG _ _ d
  | s ns => obtain ⟨q, e4, a1⟩ := d; exact ⟨q, e4, sG.seq a1⟩
  | z ys => obtain ⟨q, e4, a1⟩ := d; exact ⟨q, e4, ok.seto _ _ _ _ sG a1⟩
  | e y z => obtain ⟨q, e4, a1⟩ := d; exact ⟨q, e4, ok.exo _ _ _ _ _ sG a1⟩
  | f y => exact d
/-! ### the judgements -/
def PostEZ (w : Wd) (T : List (Addr × Str)) (H0 B : Hp) (env : Sl) (σ : L2.St) (G : Hp) : M R → VK → Prop
  | .ok r, Q => ∀ v H' G', StZ w T H0 B env σ H' G' → Same G G' → Rr w H' G' v r → Q v H'
  | .error _, _ => False
def rdEZ (w : Wd) (T : List (Addr × Str)) (f : Sl → M R) : TE := fun σ H Q => ∃ H0 B env G, StZ w T H0 B env σ H G ∧ PostEZ w T H0 B env σ G (f env) Q
def PostTZ (w : Wd) (T : List (Addr × Str)) (H0 B : Hp) (env : Sl) (σ : L2.St) (G : Hp) : M Bool → (Bool → Hp → Prop) → Prop
  | .ok b, Q => ∀ H' G', StZ w T H0 B env σ H' G' → Same G G' → Q b H'
  | .error _, _ => False
def rdTZ (w : Wd) (T : List (Addr × Str)) (f : Sl → M Bool) : TT := fun σ H Q => ∃ H0 B env G, StZ w T H0 B env σ H G ∧ PostTZ w T H0 B env σ G (f env) Q
def PostSZ (w : Wd) (T : List (Addr × Str)) (H0 B G : Hp) : M Oc → Ends → Prop
  | .ok (.nx env), D => ∀ σ' H' G', StZ w T H0 B env σ' H' G' → Same G G' → D.nx σ' H'
  | .ok (.ret r), D => ∀ v H' G', Tabs T H' → noTb G' → Grow H0 B H' G' → Rr w H' G' v r → D.rt v H'
  | _, _ => False
def rdSZ (w : Wd) (T : List (Addr × Str)) (f : Sl → M Oc) : TS := fun D σ H => ∃ H0 B env G, StZ w T H0 B env σ H G ∧ PostSZ w T H0 B G (f env) D
theorem PostSZ.sub {T : List (Addr × Str)} {H0 B G G1 : Hp} {m : M Oc} {D : Ends} (s : Same G G1) (h : PostSZ w T H0 B G m D) : PostSZ w T H0 B G1 m D := by
  cases m with
  | error e => exact h
  | ok o =>
    cases o with
    | nx env => exact fun σ' H' G' x s' => h σ' H' G' x (s.trans s')
    | ret r => exact h
    | _ => exact h
/-- only what is told without the tables -/
def zE (f : Sl → M R) : Sl → M R := fun env => if plS env = true then (match f env with
  | .ok r => if r.pl = true then .ok r else .error .stuck
  | .error _ => .error .stuck) else .error .stuck
def zT (f : Sl → M Bool) : Sl → M Bool := fun env => if plS env = true then quiet (f env) else .error .stuck
def zS (f : Sl → M Oc) : Sl → M Oc := fun env => if plS env = true then (match f env with
  | .ok (.nx e) => if plS e = true then .ok (.nx e) else .error .stuck
  | _ => .error .stuck) else .error .stuck
section
variable {X : Cx} {T : List (Addr × Str)} {pos : Pos} {st : Stmt} {rest : List Stmt} {e a b : Expr} {es : List Expr} {f f' : Sl → M R} {ft ft' : Sl → M Bool} {g g1 g2 : Sl → M Oc}
theorem xz_E (ok : w.Ok) (h : PE X e (rdE w W f)) : PE X e (rdEZ w T (zE f)) := by
  refine PEi h fun σ H Q h => ?_
  obtain ⟨H0, B, env, G, z, h⟩ := h
  refine ⟨H0, B, env, G, z.g, z.x, ?_⟩
  unfold zE at h
  split at h
  · rename_i hp
    cases q : f env with
    | error er => rw [q] at h; exact h.elim
    | ok r =>
      rw [q] at h
      dsimp only at h
      split at h
      · rename_i hr
        intro v H' G' g1 rr _
        obtain ⟨z2, s2⟩ := z.more ok hp g1
        exact h v H' _ z2 s2 (rr.noTG hr)
      · exact h.elim
  · exact h.elim
theorem xz_T (ok : w.Ok) (h : PT X e (rdT w W ft)) : PT X e (rdTZ w T (zT ft)) := by
  refine PTi h fun σ H Q h => ?_
  obtain ⟨H0, B, env, G, z, h⟩ := h
  refine ⟨H0, B, env, G, z.g, z.x, ?_⟩
  unfold zT at h
  split at h
  · rename_i hp
    cases q : ft env with
    | error er => rw [q] at h; exact h.elim
    | ok b =>
      rw [q] at h
      intro H' G' g1
      obtain ⟨z2, s2⟩ := z.more ok hp g1
      exact h H' _ z2 s2
  · exact h.elim
theorem xz_S (ok : w.Ok) (h : PS X st (rdS w W g)) : PS X st (rdSZ w T (zS g)) := by
  refine PSi h fun D σ H h => ?_
  obtain ⟨H0, B, env, G, z, h⟩ := h
  unfold zS at h
  split at h
  · rename_i hp
    obtain ⟨gf, xf⟩ := z.fix hp
    refine ⟨fixT H0 H G, B, env, G, gf, xf, ?_⟩
    cases q : g env with
    | error er => rw [q] at h; exact h.elim
    | ok o =>
      rw [q] at h
      cases o with
      | nx e1 =>
        dsimp only at h
        split at h
        · rename_i he
          intro σ' H' G' g1 s1 x1
          obtain ⟨z2, s2⟩ := z.back g1 s1 x1 he
          exact h σ' H' _ z2 s2
        · exact h.elim
      | _ => exact h.elim
  · exact h.elim
/-! statements in a row -/
theorem xzss_nil : PSs X [] (rdSZ w T sNext) := PSsi pss_nil fun D σ H h => by
  obtain ⟨H0, B, env, G, z, h⟩ := h
  exact h σ H G z (Same.refl G)
theorem xzss_cons (h1 : PS X st (rdSZ w T g1)) (h2 : PSs X rest (rdSZ w T g2)) : PSs X (st :: rest) (rdSZ w T (sSeq g1 g2)) := by
  refine PSsi (pss_cons h1 h2) fun D σ H h => ?_
  obtain ⟨H0, B, env, G, z, h⟩ := h
  refine ⟨H0, B, env, G, z, ?_⟩
  unfold sSeq at h
  cases e1 : g1 env with
  | error er => rw [e1] at h; exact h.elim
  | ok o =>
    rw [e1] at h
    cases o with
    | nx env' => exact fun σ' H' G' z' s => ⟨H0, B, env', G', z', PostSZ.sub s h⟩
    | ret r => exact h
    | bk env' => exact h.elim
    | ct env' => exact h.elim
    | rs r env' => exact h.elim
theorem xzss_one (h1 : PS X st (rdSZ w T g1)) : PSs X [st] (rdSZ w T g1) := pss_one h1
theorem xzs_if {c : Expr} {sa sb : List Stmt} (hc : PT X c (rdTZ w T ft)) (ha : PSs X sa (rdSZ w T g1)) (hb : PSs X sb (rdSZ w T g2)) : PS X (.If c sa sb pos) (rdSZ w T (sIf ft g1 g2)) := by
  refine PSi (ps_if hc ha hb) fun D σ H h => ?_
  obtain ⟨H0, B, env, G, z, h⟩ := h
  refine ⟨H0, B, env, G, z, ?_⟩
  unfold sIf at h
  cases e1 : ft env with
  | error er => rw [e1] at h; exact h.elim
  | ok t =>
    rw [e1] at h
    intro H' G' z' s
    cases t with
    | true => exact ⟨H0, B, env, G', z', PostSZ.sub s h⟩
    | false => exact ⟨H0, B, env, G', z', PostSZ.sub s h⟩
def zR (f : Sl → M R) : Sl → M Oc := fun env => match f env with
  | .ok r => .ok (.ret r)
  | .error _ => .error .stuck
theorem xzs_ret (he : PE X e (rdEZ w T f)) : PS X (.Return (some e) pos) (rdSZ w T (zR f)) := by
  refine PSi (ps_ret he) fun D σ H h => ?_
  obtain ⟨H0, B, env, G, z, h⟩ := h
  refine ⟨H0, B, env, G, z, ?_⟩
  unfold zR at h
  cases q : f env with
  | error er => rw [q] at h; exact h.elim
  | ok r =>
    rw [q] at h
    exact fun v H' G' z' s rr => h v H' G' z'.t z'.nG z'.g rr
/-- a slot's own list is for good from here on -/
theorem xzss_frz (i : Nat) (ok : w.Ok) {sts : List Stmt} (h : PSs X sts (rdSZ w T g)) : PSs X sts (rdSZ w T (sSeq (sFrz i) g)) := by
  refine PSsi h fun D σ H h => ?_
  obtain ⟨H0, B, env, G, z, h⟩ := h
  unfold sSeq sFrz at h
  split at h
  · rename_i b xs e1
    have h : PostSZ w T H0 B G (g (env.set i (some (.d (.list xs))))) D := h
    obtain ⟨hh, v, hv, ⟨p, vs, rfl, nG, h1, h2⟩, h0⟩ := z.x.at_ i _ e1
    have n0 := h0 p rfl
    have hi : i < env.length := (List.getElem?_eq_some_iff.mp e1).1
    have sG : Same G (upd G p (.lst vs)) := Same.new nG
    have g2 : Grow H0 B H (upd G p (.lst vs)) := z.g.keep n0 h1 nG
    have off : ∀ {j : Nat} {r1 : R} {u : V}, j ≠ i → env[j]? = some (some r1) → σ[j]? = some (some u) → ∀ a, foot H r1 u a → a ≠ p := fun {j r1 u} hj e2 s1 a f q => hj (by
      subst q
      exact z.x.inj j i r1 _ u _ a e2 e1 s1 hv f rfl)
    refine ⟨H0, B, env.set i (some (.d (.list xs))), upd G p (.lst vs), ⟨z.t, z.n0, fun b ps q => ?_, g2, ⟨by simp [z.x.len], fun j r1 e2 => ?_, fun j k r1 r2 u1 u2 y e2 e3 s1 s2 f1 f2 => ?_⟩⟩, h.sub sG⟩
    · by_cases hb : b = p
      · subst hb; rw [upd_same] at q; cases q
      · rw [upd_ne hb] at q; exact z.nG b ps q
    · by_cases hj : j = i
      · subst hj
        rw [List.getElem?_set_self hi] at e2
        cases e2
        exact ⟨rfl, _, hv, Rp.lst upd_same (RpL.mono sG _ _ h2), fun _ q => q.elim⟩
      · rw [List.getElem?_set_ne (Ne.symm hj)] at e2
        obtain ⟨a, u, c, d, f⟩ := z.x.at_ j r1 e2
        exact ⟨a, u, c, d.good ok nG (off hj e2 c), f⟩
    · have low : ∀ {l : Nat} {r3 : R} {u : V}, (env.set i (some (.d (.list xs))))[l]? = some (some r3) → foot H r3 u y → l ≠ i ∧ env[l]? = some (some r3) := fun {l r3 u} q1 q2 => by
        by_cases hl : l = i
        · subst hl
          rw [List.getElem?_set_self hi] at q1
          cases q1
          exact q2.elim
        · rw [List.getElem?_set_ne (Ne.symm hl)] at q1
          exact ⟨hl, q1⟩
      obtain ⟨_, e2⟩ := low e2 f1
      obtain ⟨_, e3⟩ := low e3 f2
      exact z.x.inj j k r1 r2 u1 u2 y e2 e3 s1 s2 f1 f2
  · exact h.elim
end
end Vs
end
section
namespace Vs
open PySem PySem.Spec PyProof.Rows L2
open LamX (ExtN Tabs TabS TabB CodeO)
variable {w : Wd} {W : WX}
/-! ## expressions, tests, loops in such frames -/
def eOpZ (o : Op) (fa fb : Sl → M R) : Sl → M R := fun env => match fa env with
  | .ok r1 => if plS env = true then (match fb env with
    | .ok r2 => (match o r1 r2 with
      | .ok (.d x) => .ok (.d x)
      | _ => .error .stuck)
    | .error _ => .error .stuck) else .error .stuck
  | .error _ => .error .stuck
section
variable {X : Cx} {T : List (Addr × Str)} {pos : Pos} {st : Stmt} {rest : List Stmt} {e a b : Expr} {es : List Expr} {f f' fa fb : Sl → M R} {ft ft' : Sl → M Bool} {g g1 g2 : Sl → M Oc}
theorem rd_opZ {r2 : R2} {o : Op} (ok : w.Ok) (hs : OpS w r2 o) (σ : L2.St) (H : Hp) (Q : VK) (h : rdEZ w T (eOpZ o fa fb) σ H Q) : tOp r2 (rdEZ w T fa) (rdE w W fb) σ H Q := by
  obtain ⟨H0, B, env, G, z, h⟩ := h
  refine ⟨H0, B, env, G, z, ?_⟩
  unfold eOpZ at h
  cases q : fa env with
  | error er => rw [q] at h; exact h.elim
  | ok r1 =>
    rw [q] at h
    dsimp only at h
    intro v1 H1 G1 z1 s1 rr1
    split at h
    · rename_i hp
      refine ⟨H0, B, env, G1, z1.g, z1.x, ?_⟩
      cases q2 : fb env with
      | error er => rw [q2] at h; exact h.elim
      | ok r2 =>
        rw [q2] at h
        dsimp only at h
        intro v2 H2 G2 g2 rr2 _
        refine hs H2 G2 v1 v2 r1 r2 Q g2.s (rr1.mono ok g2) rr2 ?_
        split at h
        · rename_i x e3
          rw [e3]
          intro v H' G' g' rv _
          obtain ⟨z2, s2⟩ := z1.more ok hp (g2.trans g')
          exact h v H' _ z2 (s1.trans s2) (Rr.noTG rfl rv)
        · exact h.elim
    · exact h.elim
theorem xz_cmp {op : CmpOp} {r2 : R2} {o : Op} (ok : w.Ok) (ho : OpR X (compareOp op) r2) (hs : OpS w r2 o) (ha : PE X a (rdEZ w T fa)) (hb : PE X b (rdE w W fb)) (hm : behindInMarks op b = false) : PE X (.Compare a [op] [b] pos) (rdEZ w T (eOpZ o fa fb)) :=
  PEi (pe_cmpR ho ha hb hm) (rd_opZ ok hs)
theorem xz_val (h : PE X e (rdEZ w T f)) (he : ∀ whole, isTrue e X.env whole = (do let v ← whole; standAt e.pos; holding [v] (truthy v)) := by intro _; rfl) : PT X e (rdTZ w T (tV f)) := by
  refine PTi (pt_val h he) fun σ H Q h => ?_
  obtain ⟨H0, B, env, G, z, h⟩ := h
  refine ⟨H0, B, env, G, z, ?_⟩
  unfold tV at h
  cases q : f env with
  | error er => rw [q] at h; exact h.elim
  | ok r =>
    rw [q] at h
    intro v H1 G1 z1 s1 rr
    cases r with
    | d y =>
      cases y with
      | bool c =>
        cases rr
        exact ⟨c, rfl, h H1 G1 z1 s1⟩
      | _ => exact h.elim
    | _ => exact h.elim
theorem rdEZ_tV {f : Sl → M R} {σ : L2.St} {H : Hp} {Q : Bool → Hp → Prop} (h : rdTZ w T (tV f) σ H Q) : rdEZ w T f σ H fun x H1 => ∃ c, x = .bl c ∧ Q c H1 := by
  obtain ⟨H0, B, env, G, z, h⟩ := h
  refine ⟨H0, B, env, G, z, ?_⟩
  unfold tV at h
  cases q : f env with
  | error er => rw [q] at h; exact h.elim
  | ok r =>
    rw [q] at h
    intro v H1 G1 z1 s1 rr
    cases r with
    | d y =>
      cases y with
      | bool c =>
        cases rr
        exact ⟨c, rfl, h H1 G1 z1 s1⟩
      | _ => exact h.elim
    | _ => exact h.elim
theorem rdTZ_bind {ft : Sl → M Bool} {k : Bool → Sl → M Bool} {σ : L2.St} {H : Hp} {Q : Bool → Hp → Prop} {k' : Bool → Hp → Prop} (h : rdTZ w T (fun env => (ft env).bind fun b => k b env) σ H Q)
    (hk : ∀ b H1, rdTZ w T (k b) σ H1 Q → k' b H1) : rdTZ w T ft σ H k' := by
  obtain ⟨H0, B, env, G, z, h⟩ := h
  refine ⟨H0, B, env, G, z, ?_⟩
  have h : PostTZ w T H0 B env σ G ((ft env).bind fun b => k b env) Q := h
  cases q : ft env with
  | error er => rw [q] at h; exact h.elim
  | ok b =>
    rw [q] at h
    intro H1 G1 z1 s1
    refine hk b H1 ⟨H0, B, env, G1, z1, ?_⟩
    have h : PostTZ w T H0 B env σ G (k b env) Q := h
    cases q2 : k b env with
    | error er => rw [q2] at h; exact h.elim
    | ok c => rw [q2] at h; exact fun H2 G2 z2 s2 => h H2 G2 z2 (s1.trans s2)
theorem rdTZ_done {c : Bool} {σ : L2.St} {H : Hp} {Q : Bool → Hp → Prop} (h : rdTZ w T (fun _ => .ok c) σ H Q) : Q c H := by
  obtain ⟨H0, B, env, G, z, h⟩ := h
  exact h H G z (Same.refl G)
theorem xz_not (ha : PT X a (rdTZ w T ft)) : PT X (.UnaryOp .Not a pos) (rdTZ w T (tNo ft)) :=
  PTi (pt_not ha) fun σ H Q h => rdTZ_bind (k := fun b _ => .ok (!b)) h fun b H1 h1 => rdTZ_done h1
theorem xzw_and1 (h : PT X a (rdTZ w T ft)) : PW X (.BoolOp .And [a] pos) (rdTZ w T ft) := pw_and1 h
theorem xzw_or1 (h : PT X a (rdTZ w T ft)) : PW X (.BoolOp .Or [a] pos) (rdTZ w T ft) := pw_or1 h
theorem xzw_and (ha : PT X a (rdTZ w T ft)) (hb : PW X (.BoolOp .And (b :: es) pos) (rdTZ w T ft')) : PW X (.BoolOp .And (a :: b :: es) pos) (rdTZ w T (tAn ft ft')) := by
  refine PWi (pw_and ha hb) fun σ H Q h => rdTZ_bind (k := fun b env => if b then ft' env else .ok false) h fun c H1 h1 => ?_
  cases c with
  | true => exact h1
  | false => exact rdTZ_done h1
theorem xzw_or (ha : PT X a (rdTZ w T ft)) (hb : PW X (.BoolOp .Or (b :: es) pos) (rdTZ w T ft')) : PW X (.BoolOp .Or (a :: b :: es) pos) (rdTZ w T (tOrr ft ft')) := by
  refine PWi (pw_or ha hb) fun σ H Q h => rdTZ_bind (k := fun b env => if b then .ok true else ft' env) h fun c H1 h1 => ?_
  cases c with
  | true => exact rdTZ_done h1
  | false => exact h1
theorem xz_w (h : PW X a (rdTZ w T ft)) : PT X a (rdTZ w T ft) := h.pt
/-- a or b as values, bools alone -/
theorem xz_one {op} (h : PE X a (rdEZ w T fa)) : PE X (.BoolOp op [a] pos) (rdEZ w T fa) := pe_one h
theorem xz_or (ha : PE X a (rdEZ w T fa)) (hb : PE X (.BoolOp .Or (b :: es) pos) (rdEZ w T fb)) : PE X (.BoolOp .Or (a :: b :: es) pos) (rdEZ w T (eOr fa fb)) := by
  refine PEi (pe_or ha hb) fun σ H Q h => ?_
  obtain ⟨H0, B, env, G, z, h⟩ := h
  refine ⟨H0, B, env, G, z, ?_⟩
  unfold eOr at h
  cases q : fa env with
  | error er => rw [q] at h; exact h.elim
  | ok r =>
    rw [q] at h
    intro v H1 G1 z1 s1 rr
    cases r with
    | d y =>
      cases y with
      | bool c =>
        cases rr
        refine ⟨c, rfl, ?_⟩
        cases c with
        | false =>
          refine ⟨H0, B, env, G1, z1, ?_⟩
          have h : PostEZ w T H0 B env σ G (fb env) Q := h
          cases q2 : fb env with
          | error er => rw [q2] at h; exact h.elim
          | ok r2 => rw [q2] at h; exact fun v H2 G2 z2 s2 => h v H2 G2 z2 (s1.trans s2)
        | true => exact h (.bl true) H1 G1 z1 s1 (.bl true)
      | _ => exact h.elim
    | _ => exact h.elim
/-- a comparison as a test -/
theorem xz_tcmp {op : CmpOp} {r2 : R2} {o : Op} (ok : w.Ok) (ho : OpR X (compareOp op) r2) (hs : OpS w r2 o) (ha : PE X a (rdEZ w T fa)) (hb : PE X b (rdE w W fb)) (hm : behindInMarks op b = false) : PT X (.Compare a [op] [b] pos) (rdTZ w T (tV (eOpZ o fa fb))) :=
  PTi (pt_cmpR ho ha hb hm) fun σ H Q h => rd_opZ ok hs σ H _ (rdEZ_tV h)
/-! loops -/
def PostIZ (w : Wd) (T : List (Addr × Str)) (H0 B : Hp) (env : Sl) (σ : L2.St) (G : Hp) : M (List PD) → (It → Hp → Prop) → Prop
  | .ok xs, Q => ∀ J H' G', StZ w T H0 B env σ H' G' → Same G G' → Wk w J G' xs → Q J H'
  | .error _, _ => False
def rdIZ (w : Wd) (T : List (Addr × Str)) (f : Sl → M (List PD)) : TI := fun σ H R => ∃ H0 B env G, StZ w T H0 B env σ H G ∧ PostIZ w T H0 B env σ G (f env) R
def zI (f : Sl → M (List PD)) : Sl → M (List PD) := fun env => if plS env = true then quiet (f env) else .error .stuck
theorem xzi_tup {tg l : Expr} {fl : Sl → M R} (ok : w.Ok) (hK : X.K = w.K) (hl : PE X l (rdE w W fl)) : PI X tg l (rdIZ w T (zI (iT fl))) := by
  refine PIi (pi_tup hl) fun σ H R h => ?_
  obtain ⟨H0, B, env, G, z, h⟩ := h
  refine ⟨H0, B, env, G, z.g, z.x, ?_⟩
  unfold zI iT at h
  split at h
  · rename_i hp
    cases e : fl env with
    | error er => rw [e] at h; exact h.elim
    | ok r =>
      rw [e] at h
      intro v H1 G1 g1 rr fr
      obtain ⟨z2, s2⟩ := z.more ok hp g1
      cases r with
      | d y =>
        cases y with
        | tuple xs =>
          have rr2 := Rr.noTG (r := .d (.tuple xs)) rfl rr
          cases rr2 with
          | tup r1 r2 => exact ⟨_, rfl, ⟨_, SqT.of (z2.g.s _ _ r1)⟩, h _ H1 _ z2 s2 (wk_tup hK (SqT.of r1) r2)⟩
        | _ => exact h.elim
      | _ => exact h.elim
  · exact h.elim
theorem xzi_range1 {tg a : Expr} {fs : Sl → M (List R)} {p pos : Pos} (ok : w.Ok) (hg : Gl X "range") (hm : X.mg "range" = none) (ha : PA X [a] (rdA w W fs)) (hs : starEach [a] X.env = [(false, eval a X.env)] := by rfl) : PI X tg (.Call (.Name "range" p) [a] [] pos) (rdIZ w T (zI (iR1 fs))) := by
  refine PIi (pi_range1 hg hm ha hs) fun σ H R h => ?_
  obtain ⟨H0, B, env, G, z, h⟩ := h
  refine ⟨H0, B, env, G, z.g, z.x, ?_⟩
  unfold zI iR1 at h
  split at h
  · rename_i hp
    cases e : fs env with
    | error er => rw [e] at h; exact h.elim
    | ok rs =>
      rw [e] at h
      intro vs H1 G1 g1 rr fr
      obtain ⟨z2, s2⟩ := z.more ok hp g1
      have h : PostIZ w T H0 B env σ G (quiet ((intL rs).bind rg1)) R := h
      cases e2 : intL rs with
      | error er => rw [e2] at h; exact h.elim
      | ok is =>
        rw [e2] at h
        rw [intL_ok e2 rr]
        have h : PostIZ w T H0 B env σ G (quiet (rg1 is)) R := h
        unfold rg1 at h
        split at h
        · rename_i j h9
          have h : PostIZ w T H0 B env σ G (quiet (if LimP j then .ok (rngD 0 j.toNat) else .error .stuck)) R := h
          split at h
          · rename_i hj
            have hj := limP_iff.mp hj
            exact ⟨j, rfl, (lim_62 hj).1, (lim_62 hj).2, h _ H1 _ z2 s2 wk_rng⟩
          · exact h.elim
        · exact h.elim
  · exact h.elim
def gZ (fG : PD → Sl → M Sl) : PD → Sl → M Sl := fun x env => if plS env = true then fG x env else .error .stuck
def zB (g : Sl → M Oc) : Sl → M Oc := fun env => match g env with
  | .ok (.nx e) => .ok (.nx e)
  | .ok (.ret r) => .ok (.ret r)
  | _ => .error .stuck
theorem rd_forZ {fi : Sl → M (List PD)} {is : List Nat} {fG : PD → Sl → M Sl} (ok : w.Ok) {D : Ends} {σ : L2.St} {H : Hp} (h : rdSZ w T (sFor fi (gZ fG) (zB g)) D σ H) : tFor (rdIZ w T fi) (rdG w is fG) (rdSZ w T g) D σ H := by
  obtain ⟨H0, B, env, G, z, h⟩ := h
  refine ⟨H0, B, env, G, z, ?_⟩
  unfold sFor at h
  cases e : fi env with
  | error er => rw [e] at h; exact h.elim
  | ok xs =>
    rw [e] at h
    intro J H1 G1 z1 s1 wk
    have h : PostSZ w T H0 B G (forGo (gZ fG) (zB g) xs env) D := h
    refine ⟨fun i m σ' H' => m = xs.length - i ∧ i ≤ xs.length ∧ ∃ env' G', StZ w T H0 B env' σ' H' G' ∧ Same G1 G' ∧ PostSZ w T H0 B G' (forGo (gZ fG) (zB g) (xs.drop i) env') D,
      ⟨xs.length, by simp, Nat.zero_le _, env, G1, z1, Same.refl G1, by rw [List.drop_zero]; exact PostSZ.sub s1 h⟩, ?_⟩
    rintro i m σ' H' ⟨rfl, hi, env', G', z', s', hp⟩
    by_cases hlt : i < xs.length
    · have hdrop : xs.drop i = xs[i] :: xs.drop (i + 1) := List.drop_eq_getElem_cons hlt
      rw [hdrop] at hp
      refine .inr ⟨wk.go i H' G' s' z'.g.s hlt, fun σ2 H2 => i + 1 ≤ xs.length ∧ ∃ env' G', StZ w T H0 B env' σ2 H2 G' ∧ Same G1 G' ∧ PostSZ w T H0 B G' (forGo (gZ fG) (zB g) (xs.drop (i + 1)) env') D,
        fun σ2 H2 q => ⟨xs.length - (i + 1), by omega, rfl, q.1, q.2⟩, fun v H2 y => ?_⟩
      obtain ⟨G2, xi, hxi, rxi, g2⟩ := wk.yld i H' G' v H2 s' z'.g.s hlt y
      rw [List.getElem?_eq_getElem hlt] at hxi
      cases hxi
      unfold forGo at hp
      by_cases hpl : plS env' = true
      · obtain ⟨z2, s2⟩ := z'.more ok hpl g2
        refine ⟨H0, B, env', noT G2, xs[i], z2.g, z2.x, Rr.noTG (w := w) (H := H2) (r := .d xs[i]) rfl rxi, ?_⟩
        have eg : gZ fG xs[i] env' = fG xs[i] env' := if_pos hpl
        rw [eg] at hp
        cases e3 : fG xs[i] env' with
        | error er => rw [e3] at hp; exact hp.elim
        | ok env1 =>
          rw [e3] at hp
          refine fun σ2 x2 _ => ⟨H0, B, env1, noT G2, ⟨z2.t, z2.n0, z2.nG, z2.g, x2⟩, ?_⟩
          have hp : PostSZ w T H0 B G' ((zB g env1).bind fun o => match o with
            | .nx e => forGo (gZ fG) (zB g) (xs.drop (i + 1)) e
            | .ct e => forGo (gZ fG) (zB g) (xs.drop (i + 1)) e
            | .bk e => .ok (.nx e)
            | .ret r => .ok (.ret r)
            | .rs r e => .ok (.rs r e)) D := hp
          unfold zB at hp
          cases e4 : g env1 with
          | error er => rw [e4] at hp; exact hp
          | ok o =>
            rw [e4] at hp
            cases o with
            | nx e5 => exact fun σ3 H3 G3 z3 s3 => ⟨hlt, e5, G3, z3, (s'.trans s2).trans s3, PostSZ.sub (s2.trans s3) hp⟩
            | ret r => exact hp
            | rs r e5 => exact hp.elim
            | ct e5 => exact hp.elim
            | bk e5 => exact hp.elim
      · have eg : gZ fG xs[i] env' = .error .stuck := if_neg hpl
        rw [eg] at hp
        exact hp.elim
    · have hi' : i = xs.length := by omega
      refine .inl ⟨wk.stop i H' G' s' z'.g.s (by omega), ?_⟩
      rw [hi', List.drop_length] at hp
      exact hp σ' H' G' z' (Same.refl G')
theorem xzs_for {tg iter : Expr} {body : List Stmt} {fi : Sl → M (List PD)} {is : List Nat} {fG : PD → Sl → M Sl} (ok : w.Ok) (hp : PassesOwn (model X.prog X.w) X.A X.env X.xe) (hc : X.calm = true) (hi : PI X tg iter (rdIZ w T fi)) (hg : PG X tg (rdG w is fG)) (hb : PSs X body (rdSZ w T g))
    (hs : ∀ x, foldedSetIterable iter X.env x = pure x := by intro _; rfl) : PS X (.For tg iter body [] pos) (rdSZ w T (sFor fi (gZ fG) (zB g))) := PSi (ps_for hp hc hi hg hb hs) fun D σ H h => rd_forZ ok h
end
/-! ## a def that may write the tables, and its call -/
def PostFZ (w : Wd) (T : List (Addr × Str)) (H B : Hp) : M R → VK → Prop
  | .ok r, Q => ∀ v H' G', Tabs T H' → noTb G' → Grow (noT H) (noT B) H' G' → Rr w H' G' v r → Q v H'
  | .error _, _ => False
def spZ (w : Wd) (T : List (Addr × Str)) (n : Nat) (m : List R → M R) : Sp := fun vs H Q _ => vs.length = n ∧ Tabs T H ∧ ∃ B rs, Same B H ∧ RrL w H B vs rs ∧ (∀ r ∈ rs, r.own = false) ∧ (∀ r ∈ rs, r.pl = true) ∧ PostFZ w T H B (m rs) Q
def runZ (n : Nat) (g : Sl → M Oc) (rs : List R) : M R := match g (startS n rs) with
  | .ok (.nx _) => .ok (.d .none)
  | .ok (.ret r) => .ok r
  | _ => .error .stuck
structure DfnZ (P : Program) (wd : World) (w : Wd) (base : Heap) (T : List (Addr × Str)) (x : Str) (k n : Nat) (m : List R → M R) : Prop where
  ex : ∃ f fd ps, FnOk P wd w.K w.mg base (L2.CX P wd) k f fd ps (spZ w T n m) ∧ w.mg x = some (.ref f) ∧ PySem.W.keepIn w.K (.ref f) = true ∧ Binds w.K fd ps []
theorem DfnZ.mono {P : Program} {wd : World} {base : Heap} {T : List (Addr × Str)} {x : Str} {j k n : Nat} {m : List R → M R} (D : DfnZ P wd w base T x j n m) (h : j ≤ k) : DfnZ P wd w base T x k n m := by
  obtain ⟨f, fd, ps, F, a, b, c⟩ := D.ex
  exact ⟨f, fd, ps, F.mono h, a, b, c⟩
theorem plS_start {n : Nat} {rs : List R} (h : ∀ r ∈ rs, r.pl = true) : plS (startS n rs) = true := by
  unfold plS startS
  rw [List.all_eq_true]
  intro o ho
  rcases List.mem_append.mp ho with ho | ho
  · obtain ⟨r, hr, rfl⟩ := List.mem_map.mp ho
    exact h r hr
  · obtain ⟨_, rfl⟩ := List.mem_replicate.mp ho
    rfl
theorem fn_okZ {P : Program} {wd : World} {base : Heap} {T : List (Addr × Str)} {x qual : Str} {st : Stmt} {f : Addr} {fd : FuncData} {N ps : List Str} {k n : Nat} {g : Sl → M Oc} (F : FunD w.K x qual (defArgs st) (defBody st) (defScope st) [] [] f fd) (S : FnScope N ps (defScope st)) (hn : ps.length = n)
    (body : ∀ (cdv : Value) (A : Around) (outer : List Env) (s : Shared) (H : Hp) (E : XK), cdv = fd.code → Room k (A.deeper (envOfC qual (defScope st) s.heap.objs.size f cdv)) →
      PSs (cxOf (L2.CX P wd) P wd w.K w.mg base N qual (defScope st) f cdv A outer s H E) (defBody st) (rdSZ w T g)) : FnOk P wd w.K w.mg base (L2.CX P wd) (k + 1) f fd ps (spZ w T n (runZ N.length g)) := by
  refine ⟨fun vs H Q E h => h.1.trans hn.symm, ?_⟩
  intro A outer s H args us vs Q E hr en hb rv hs
  obtain ⟨oc, od, dV, kV, doc, pm, an, cdv, ct, osl, e, lk, hcd, _, _⟩ := F.ex
  subst e
  have old : ∀ b o, base.get? b = some o → s.heap.get? b = some o := fun b o z => (en.bs b o z).1
  have kin := en.mod.kin.keeps old
  have nl := en.mod.nolimit.keeps old
  have loc : ∀ y ∈ ps.zip us, (defScope st).names.lookup y.1 = some .local ∨ ((defScope st).names.lookup y.1 = some .cell ∧ ((cellsFrom (s.heap.objs.size + 1) (defScope st).names []).lookup y.1).isSome = true) := by
    rintro ⟨n, v⟩ hy
    refine (S.par n (List.of_mem_zip hy).1).imp id fun q => ⟨q, PySem.W.cellsFrom_some _ _ _ (.inl q)⟩
  apply codeAny_call_function hr.depth (kin _ _ lk) rfl S.co S.gen rfl (PySem.W.codeRec_of kin hcd)
  apply hb
  apply wpAny_newFunctionEnv_cells S.kind loc
  intro env he s1 ic
  subst he
  refine ⟨nl.keeps ic.toInCall.keep, codeAny_func ?_⟩
  have pt := body cdv A outer s H E rfl (hr.deeper _)
  obtain ⟨hl, tb, B, rs, sB, rr, ho, hpl, h⟩ := hs
  have iv := inv_start (CX := L2.CX P wd) (E := E) S hr.hd en (hl.trans hn.symm) rv ic
  have qt : rdSZ w T g { nx := fun _ H' => Q .non H', rt := Q } (start N vs) H := by
    have z : StZ w T (noT H) (noT B) (startS N.length rs) (start N vs) H (noT B) :=
      ⟨tb, noT_noTb H, noT_noTb B, (Grow.refl sB).noT (ExtN.refl H), (Sim.start sB rr ho).noT (plS_start hpl) (ExtN.refl H) (Same.refl _) fun b o _ _ n _ => noT_none n⟩
    refine ⟨noT H, noT B, startS N.length rs, noT B, z, ?_⟩
    unfold runZ at h
    split at h
    · rename_i env' e1
      rw [e1]
      exact fun σ' H' G' z' _ => h .non H' G' z'.t z'.nG z'.g .non
    · rename_i r e1
      rw [e1]
      exact h
    · exact h.elim
  refine wpAny_mono (pt.run [] s1 (start N vs) H _ iv qt) ?_ fun _ _ z => z
  intro fl s' z
  cases fl with
  | next =>
    obtain ⟨σ', H', J, q⟩ := z
    exact ⟨.non, H', J.os, J.bare, J.base, J.hok, rfl, q⟩
  | ret u =>
    obtain ⟨v, σ', H', J, r, q⟩ := z
    exact ⟨v, H', J.os, J.bare, J.base, J.hok, r, q⟩
  | brk =>
    obtain ⟨_, _, _, q⟩ := z
    cases q
  | cont =>
    obtain ⟨_, _, _, q⟩ := z
    cases q
def R.isDS : R → Bool
  | .d _ => true
  | .s _ => true
  | _ => false
/-- f(a, ..), f such a def, its arguments data or the script -/
def eDZ (n : Nat) (m : List R → M R) (fs : Sl → M (List R)) : Sl → M R := fun env => match fs env with
  | .ok rs => if plS env = true ∧ rs.length = n ∧ (rs.all R.isDS) = true then (match m rs with
    | .ok (.d d) => .ok (.d d)
    | _ => .error .stuck) else .error .stuck
  | _ => .error .stuck
section
variable {X : Cx} {T : List (Addr × Str)} {e : Expr} {es : List Expr} {fs : Sl → M (List R)}
theorem xz_call {x : Str} {k n : Nat} {m : List R → M R} {p pos : Pos} (ok : w.Ok) (hK : X.K = w.K) (hM : X.mg = w.mg) (D : DfnZ X.prog X.w w X.base T x k n m) (hr : Room k X.A) (tk : Takes X W) (hg : Gl X x) (ha : PA X (e :: es) (rdA w W fs))
    (hdb : (x == ("__debug__" : Str)) = false := by decide) (he : starEach (e :: es) X.env = (false, eval e X.env) :: starEach es X.env := by rfl) (hpl : (backTo pos (starEach es X.env)).any (·.1) = false := by rfl) : PE X (.Call (.Name x p) (e :: es) [] pos) (rdEZ w T (eDZ n m fs)) := by
  obtain ⟨f, fd, ps, F, hm, hk, hb⟩ := D.ex
  rw [← hK, ← hM] at F
  rw [← hM] at hm
  rw [← hK] at hk hb
  refine PEi (pe_callS F hr hg hm hk hb (fun σ => passAt tk σ) ha hdb he hpl) fun σ H Q h => ?_
  obtain ⟨H0, B, env, G, z, h⟩ := h
  refine ⟨H0, B, env, G, z.g, z.x, ?_⟩
  unfold eDZ at h
  cases ers : fs env with
  | error er => rw [ers] at h; exact h.elim
  | ok rs =>
    rw [ers] at h
    dsimp only at h
    split at h
    · rename_i c
      intro vs H1 G1 g1 rr fr
      obtain ⟨z1, s1⟩ := z.more ok c.1 g1
      have own : ∀ r ∈ rs, r.own = false := fun r hr => by
        have := List.all_eq_true.mp c.2.2 r hr
        cases r <;> first | rfl | cases this
      have pls : ∀ r ∈ rs, r.pl = true := fun r hr => by
        have := List.all_eq_true.mp c.2.2 r hr
        cases r <;> first | rfl | cases this
      refine ⟨rr.length.trans c.2.1, z1.t, G1, rs, g1.s, rr, own, pls, ?_⟩
      split at h
      · rename_i d em
        rw [em]
        intro v H' G' t' n' gg rv
        have ext : ExtN H1 H' := fun b o q nt => gg.h b o (noT_of q nt)
        have e0 : noT (noT G1) = noT G1 := noT_id (noT_noTb G1)
        have x2 : Sim w H0 env σ H' G' := by
          have := z1.x.noT c.1 ext (by rw [e0]; exact gg.g) fun b o f nt n q => gg.a b o f n (noT_of q nt)
          rw [noT_id z1.n0] at this
          exact this
        have g2 : Grow H0 B H' G' := by
          have a := z1.g
          refine ⟨fun b o q => gg.h b o (noT_of (a.h b o q) fun ps e => z.n0 b ps (by rw [← e]; exact q)), a.g.trans gg.g, gg.s, fun b o f n q => ?_⟩
          exact gg.a b o f (a.a b o f n q) (noT_of (a.h b o q) fun ps e => z.n0 b ps (by rw [← e]; exact q))
        exact h v H' G' ⟨t', z.n0, n', g2, x2⟩ (s1.trans gg.g) rv
      · exact h.elim
    · exact h.elim
end
theorem lawZ_sp {T : List (Addr × Str)} {m : List R → M R} (M : ∀ ns : List Int, ns.length ≤ 63 → m [.s ns] = .ok (.d (.bool true))) {H : Hp} {a : Addr} {ns : List Int} (hl : ns.length ≤ 63) (hT : Tabs T H) (hS : SqL w.K H a (ns.map V.int)) :
    spZ w T 1 m [.ref a] H (fun v _ => v = .bl true) fun _ _ _ => False := by
  refine ⟨rfl, hT, H, [.s ns], Same.refl H, .cons ⟨a, rfl, hS⟩ .nil, fun r hr => ?_, fun r hr => ?_, ?_⟩
  · rcases List.mem_cons.mp hr with rfl | hr
    · rfl
    · cases hr
  · rcases List.mem_cons.mp hr with rfl | hr
    · rfl
    · cases hr
  · rw [M ns hl]
    exact fun v H' G' _ _ _ rr => by cases rr; rfl
end Vs
end
section
namespace Vs
open PySem PySem.Spec PyProof.Rows L2
open LamX (ExtN Tabs TabS TabB CodeO GivesTo LamS lamCx lamEnv tLam)
variable {w : Wd}
/-! ## f(lambda: e), f telling how e is refused -/
def dOk (l : Option Int) (d : Option Addr) (G : Hp) : Prop := match l with
  | none => d = none
  | some j => ∃ D, d = some D ∧ G D = some (.xd [(("at" : Str), V.int j)])
/-- what f makes of the reading of e -/
def TTw (w : Wd) (names : List Str) (mk : List R → M R) : (XK → Hp → VK → Prop) → Hp → VK → Prop := fun tl H Q => ∀ (E2 : XK) (Q2 : VK),
  (∀ cls d H1, (∃ G1 z l xs, Same G1 H1 ∧ z ∈ names ∧ cls = .ref (He.ga w.K z) ∧ dOk l d G1 ∧ mk [.e z l] = .ok (.l true xs) ∧ ∀ v H' G', Grow H1 G1 H' G' → Rr w H' G' v (.l true xs) → Q v H') → E2 cls d H1) →
  (∀ v H1, (∃ G1, Same G1 H1 ∧ ∀ v H' G', Grow H1 G1 H' G' → Rr w H' G' v (.l true []) → Q v H') → Q2 v H1) → tl E2 H Q2
abbrev Wno : WX := fun _ _ _ _ => False
theorem set3 {α : Type} {σ : List α} (h : σ.length = 3) : ∃ x y z, σ = [x, y, z] := by
  match σ, h with
  | [x, y, z], _ => exact ⟨x, y, z, rfl⟩
theorem word_gives {X : Cx} {names : List Str} {mk : List R → M R} {k : Nat} {g : Addr} {cdg : Value} {sg : Scope} {q nf : Str} {p1 p2 p3 p4 p5 p6 p7 p8 p9 p10 p11 p12 p13 p14 p15 p16 p17 p18 p19 p20 p21 : Pos} (ok : w.Ok) (hK : X.K = w.K) (hM : X.mg = w.mg) (S : Xs w names)
    (Dk : Dfn X.prog X.w w X.base "_law_kinds" k 1 mk) (hr : Room (k + 1) X.A)
    (h0 : sg.names.lookup ("_law_asked" : Str) = some .local) (h1 : sg.names.lookup ("_law_refused" : Str) = some .local) (h2 : sg.names.lookup ("_law_e" : Str) = some .local) (hS : sg.names.lookup ("SwapError" : Str) = some .globalImplicit) (hk : sg.names.lookup ("_law_kinds" : Str) = some .globalImplicit) :
    GivesTo X ["_law_asked", "_law_refused", "_law_e"] nf sg g cdg
      [.Assign [.Name "_law_refused" p1] (.Constant .none 0 p2) p3, .Try [.Expr (.Call (.Name "_law_asked" p4) [] [] p5) p6] [.ExceptHandler (some (.Name "SwapError" p7)) (some "_law_e") [.Assign [.Name "_law_refused" p8] (.Name "_law_e" p9) p10] p11] [] [] p12,
       .Return (some (.IfExp (.Compare (.Name "_law_refused" p13) [.Is] [.Constant .none 0 p14] p15) (.List [] p16) (.Call (.Name "_law_kinds" p17) [.Name "_law_refused" p18] [] p19) p20)) p21] "_law_asked" q (TTw w names mk) := by
  intro f c' s H Q tl act hc h
  generalize hX : (cxOf C8.CX0 X.prog X.w X.K X.mg X.base ["_law_asked", "_law_refused", "_law_e"] nf sg g cdg X.A X.stack s H C8.E0).nox = Y
  have hY : Y = (cxOf C8.CX0 X.prog X.w X.K X.mg X.base ["_law_asked", "_law_refused", "_law_e"] nf sg g cdg X.A X.stack s H C8.E0).nox := hX.symm
  have nd : (["_law_asked", "_law_refused", "_law_e"] : List Str).Nodup := by decide
  -- the statements
  have s1 : PS Y (.Assign [.Name "_law_refused" p1] (.Constant .none 0 p2) p3) (fun D σ H => D.nx (σ.set 1 (some .non)) H) := by
    subst hY
    exact ps_set nd rfl (.inl h1) pe_non rfl (.inr h1)
  have s3 : PS Y (.Return (some (.IfExp (.Compare (.Name "_law_refused" p13) [.Is] [.Constant .none 0 p14] p15) (.List [] p16) (.Call (.Name "_law_kinds" p17) [.Name "_law_refused" p18] [] p19) p20)) p21)
      (rdS w Wno (sRet (rIf (tV (eOp (oIsN false) (eVar 1) (eC .none))) (rE (eL dNil)) (rE (eD 1 mk (aCons (eVar 1) aNil)))))) := by
    subst hY
    exact xs_ret (xr_if ok (xt_cmp ok op_isN isNS oIsN_tame (xe_var 1 rfl (.inl h1)) xe_non (nomark _)) (xr_e ok (xe_list ok xd_nil)) (xr_e ok (xe_call ok hK hM Dk (hr.deeper _) takes0 hk (xa_cons ok (xe_var 1 rfl (.inl h1)) xa_nil))))
  have s2 : PS Y (.Try [.Expr (.Call (.Name "_law_asked" p4) [] [] p5) p6] [.ExceptHandler (some (.Name "SwapError" p7)) (some "_law_e") [.Assign [.Name "_law_refused" p8] (.Name "_law_e" p9) p10] p11] [] [] p12)
      (fun D σ H => ∃ E : XK, (∀ cls d σ' H', E cls d H' → wKp X.K (.ref (He.ga w.K "SwapError")) 3 2 (fun D σ H => tVar 2 σ H fun v H1 => D.nx (σ.set 1 (some v)) H1) D cls d σ' H') ∧ σ[0]? = some (some (.ref f)) ∧ H c' = some (CodeO c' q) ∧ tl E H (fun _ H1 => D.nx σ H1)) := by
    subst hY
    refine ps_try_keep (X := (cxOf C8.CX0 X.prog X.w X.K X.mg X.base ["_law_asked", "_law_refused", "_law_e"] nf sg g cdg X.A X.stack s H C8.E0).nox) (i := 2) (ts := fun D σ H => tVar 2 σ H fun v H1 => D.nx (σ.set 1 (some v)) H1) (c := .ref (He.ga w.K "SwapError"))
      (tb := fun W D σ H => ∃ E : XK, (∀ cls d σ' H', E cls d H' → W cls d σ' H') ∧ σ[0]? = some (some (.ref f)) ∧ H c' = some (CodeO c' q) ∧ tl E H (fun _ H1 => D.nx σ H1))
      rfl rfl nd rfl h2 ⟨hS, by decide, .inl (by show X.mg _ = _; rw [hM]; exact S.top)⟩ rfl (fun W pn xe tk po => ?_) (fun a pn => pss_one (ps_set (i := 1) (X := ((cxOf C8.CX0 X.prog X.w X.K X.mg X.base ["_law_asked", "_law_refused", "_law_e"] nf sg g cdg X.A X.stack s H C8.E0).nox).suite a pn) nd rfl (.inl h1) (pv 2 rfl (.inl h2)) rfl (.inr h1)))
    refine ⟨fun pins s' σ H' D I h' => ?_⟩
    obtain ⟨E, hW, e1, e2, e3⟩ := h'
    exact (pss_one (ps_expr (act W pn xe E p4 p5 tk hW) rfl)).run pins s' σ H' D I ⟨e1, e2, e3⟩
  refine ⟨_, pss_cons s1 (pss_cons s2 (pss_one s3)), ?_⟩
  have e0 : ((L2.start ["_law_asked", "_law_refused", "_law_e"] [V.ref f]).set 1 (some V.non)) = [some (.ref f), some .non, none] := rfl
  refine ⟨fun cls d H1 => ∃ G1 z l xs, Same G1 H1 ∧ z ∈ names ∧ cls = .ref (He.ga w.K z) ∧ dOk l d G1 ∧ mk [.e z l] = .ok (.l true xs) ∧ ∀ v H' G', Grow H1 G1 H' G' → Rr w H' G' v (.l true xs) → Q v H', fun cls d σ' H1 hE => ?_, rfl, hc, ?_⟩
  · obtain ⟨G1, z, l, xs, sG, hz, rfl, hd, hm, hQ⟩ := hE
    obtain ⟨c1, c2, c3, c4⟩ := S.all hz
    refine ⟨by rw [hK]; exact c3, fun a ha hl => ?_⟩
    obtain ⟨x0, x1, x2, rfl⟩ := set3 hl
    refine ⟨.ref a, rfl, ?_⟩
    have gl : Grow H1 G1 (upd H1 a (ExK (.ref (He.ga w.K z)) d a)) (upd G1 a (ExK (.ref (He.ga w.K z)) d a)) := Grow.lay sG ha
    have hex : exoK w.mg z l a (upd G1 a (ExK (.ref (He.ga w.K z)) d a)) := by
      refine ⟨_, d, S.at_ z hz, upd_same, ?_⟩
      cases l with
      | none => exact hd
      | some j =>
        obtain ⟨D, e, h4⟩ := hd
        exact ⟨D, e, gl.g _ _ h4⟩
    refine ⟨upd H1 a (ExK (.ref (He.ga w.K z)) d a), upd G1 a (ExK (.ref (He.ga w.K z)) d a), [none, some (.e z l), none], upd G1 a (ExK (.ref (He.ga w.K z)) d a), Grow.refl gl.s, ⟨rfl, fun i r e => ?_, fun i j r r' v v' b e1 e2 s1 s2 f1 f2 => ?_⟩, ?_⟩
    · match i, e with
      | 0, e => cases e
      | 1, e =>
        cases e
        exact ⟨rfl, .ref a, rfl, ⟨a, rfl, by rw [S.exo]; exact hex⟩, fun _ f => f.elim⟩
      | 2, e => cases e
      | n + 3, e => simp at e
    · have one : ∀ {i : Nat} {r : R} {v : V}, ([none, some (R.e z l), none] : Sl)[i]? = some (some r) → foot (upd H1 a (ExK (.ref (He.ga w.K z)) d a)) r v b → False := fun {i r v} e f => by
        match i, e with
        | 0, e => cases e
        | 1, e => cases e; exact f.elim
        | 2, e => cases e
        | n + 3, e => simp at e
      exact (one e1 f1).elim
    · have er : sRet (rIf (tV (eOp (oIsN false) (eVar 1) (eC .none))) (rE (eL dNil)) (rE (eD 1 mk (aCons (eVar 1) aNil)))) [none, some (.e z l), none] = .ok (.ret (.l true xs)) := by
        have e1 : tV (eOp (oIsN false) (eVar 1) (eC .none)) [none, some (R.e z l), none] = .ok false := rfl
        have e2 : eD 1 mk (aCons (eVar 1) aNil) [none, some (R.e z l), none] = .ok (.l true xs) := by
          refine call_v (rs := [.e z l]) (as := [.e z l]) rfl rfl hm
        rw [sRet_eq, rIf_eq, e1, bind_ok, if_neg (by simp), rE_v e2, bind_ok]
      rw [er]
      exact fun v H' G' gg rr _ => hQ v H' G' (gl.trans gg) rr
  · refine h _ _ (fun cls d H1 hE => hE) fun v H1 hq => ?_
    obtain ⟨G1, sG, hQ⟩ := hq
    rw [e0]
    refine ⟨H1, G1, [none, some (.d .none), none], G1, Grow.refl sG, ⟨rfl, fun i r e => ?_, fun i j r r' v v' b e1 e2 s1 s2 f1 f2 => ?_⟩, ?_⟩
    · match i, e with
      | 0, e => cases e
      | 1, e => cases e; exact ⟨rfl, .non, rfl, .non, fun _ f => f.elim⟩
      | 2, e => cases e
      | n + 3, e => simp at e
    · have one : ∀ {i : Nat} {r : R} {v : V}, ([none, some (R.d .none), none] : Sl)[i]? = some (some r) → foot H1 r v b → False := fun {i r v} e f => by
        match i, e with
        | 0, e => cases e
        | 1, e => cases e; exact f.elim
        | 2, e => cases e
        | n + 3, e => simp at e
      exact (one e1 f1).elim
    · have er : sRet (rIf (tV (eOp (oIsN false) (eVar 1) (eC .none))) (rE (eL dNil)) (rE (eD 1 mk (aCons (eVar 1) aNil)))) [none, some (R.d .none), none] = .ok (.ret (.l true [])) := rfl
      rw [er]
      exact fun v H' G' gg rr _ => hQ v H' G' gg rr
/-- f(lambda: e) -/
def eWord (names : List Str) (mk : List R → M R) (f : Sl → M R) : Sl → M R := fun env => if plS env = true then (match f env with
  | .ok _ => .ok (.l true [])
  | .error (.exc z l) => if z ∈ names then (match mk [.e z l] with
    | .ok (.l true xs) => .ok (.l true xs)
    | _ => .error .stuck) else .error .stuck
  | .error .stuck => .error .stuck) else .error .stuck
theorem StZ.lam {T : List (Addr × Str)} {H0 B : Hp} {env : Sl} {σ : L2.St} {H G H1 : Hp} (z : StZ w T H0 B env σ H G) (hp : plS env = true) (e : ExtN H H1) (t : Tabs T H1) : StZ w T H0 B env σ H1 G := by
  refine ⟨t, z.n0, z.nG, ?_, ?_⟩
  · have := z.g.noT e
    rw [noT_id z.n0, noT_id z.nB, noT_id z.nG] at this
    exact this
  · have := z.x.noT hp e (by rw [noT_id z.nG]; exact Same.refl G) fun b o _ _ n _ => n
    rw [noT_id z.n0] at this
    exact this
theorem xz_word {X : Cx} {T : List (Addr × Str)} {names : List Str} {mk : List R → M R} {f : Sl → M R} {k : Nat} {x a : Str} {st : Stmt} {Ng : List Str} {c P : Addr} {params : Arguments} {body : Expr} {scope : Scope} {p lpos pos : Pos} (ok : w.Ok) (hK : X.K = w.K) (hM : X.mg = w.mg) (S : Xs w names)
    (HW : HasDef w x st [a]) (Sg : FnScope Ng [a] (defScope st)) (hNg : Ng[0]? = some a) (hva : Vis (defScope st) a) (hG : ∀ g cdg, GivesTo X Ng x (defScope st) g cdg (defBody st) a (X.env.qual ++ "<lambda>") (TTw w names mk)) (hg : Gl X x)
    (TB : TabB X.base X.mg c P) (hcode : X.env.code = .ref c) (hmT : (P, X.env.qual ++ "<lambda>") ∈ T) (hu : ∀ p ∈ T, p.1 = P → p.2 = X.env.qual ++ "<lambda>") (hr : Room (k + 2) X.A) (L : LamS X.env.scope scope) (hdef : defaultsOf params X.env = ([], []))
    (hbind : ∀ (q : Str) (cl : List (Str × Addr)) (pm cv ctv : Value), bindArgs (PySem.W.kla_fn "<lambda>" q params body scope cl pm cv ctv) ⟨[], []⟩ = pure [])
    (hbody : ∀ (A : Around) (outer : List Env) (s : Shared) (H : Hp) (E : XK) (f' c' : Addr), Room k (A.deeper (lamEnv X scope s.heap.objs.size f' c')) → PE (lamCx X A outer s H E scope f' c') body (rdE w (WD E) f))
    (hdb : (x == ("__debug__" : Str)) = false := by decide) (hd : (a == ("__debug__" : Str)) = false := by decide) (hcd : (a == ("__classdict__" : Str)) = false := by decide) :
    PE X (.Call (.Name x p) [.Lambda params body scope lpos] [] pos) (rdEZ w T (eWord names mk f)) := by
  obtain ⟨g, fd, F, hm, hb⟩ := HW.ex
  obtain ⟨oc, od, dV, kV, doc, pm, an, cdv, ct, osl, e, lk, hcdv, kp, _⟩ := F.ex
  subst e
  rw [← hM] at hm
  rw [← hK] at lk hcdv hb
  have kp : PySem.W.keepIn X.K (.ref g) = true := by rw [hK]; exact F.kp
  refine PEi (LamX.pe_lamcall (t := fun E => rdE w (WD E) f) (TT := TTw w names mk) hg hm kp lk hcdv hb Sg hNg hva (hG g cdv) TB hcode hmT hu hr L hdef hbind hbody hdb hd hcd) fun σ H Q h => ?_
  obtain ⟨H0, B, env, G, z, h⟩ := h
  refine ⟨z.t, fun H1 eN T1 E2 Q2 hE hQ => ?_⟩
  unfold eWord at h
  split at h
  · rename_i hp
    have z1 := z.lam hp eN T1
    refine ⟨H0, B, env, G, z1.g, z1.x, ?_⟩
    have fin : ∀ {xs : List PD} {H2 G2 : Hp}, PostEZ w T H0 B env σ G (.ok (.l true xs)) Q → Grow H1 G H2 G2 → ∀ v H' G', Grow H2 G2 H' G' → Rr w H' G' v (.l true xs) → Q v H' := fun {xs H2 G2} h g2 v H' G' g3 rr => by
      obtain ⟨z2, s2⟩ := z1.more ok hp (g2.trans g3)
      exact h v H' _ z2 s2 (Rr.noTG rfl rr)
    cases q : f env with
    | ok r =>
      rw [q] at h
      exact fun v H2 G2 g2 _ _ => hQ v H2 ⟨G2, g2.s, fin h g2⟩
    | error er =>
      rw [q] at h
      cases er with
      | stuck => exact h.elim
      | exc y l =>
        dsimp only at h
        split at h
        · rename_i hy
          split at h
          · rename_i xs em
            cases l with
            | none =>
              intro C H2 G2 hC g2
              rw [S.at_ y hy] at hC
              cases hC
              exact hE _ _ H2 ⟨G2, y, none, xs, g2.s, hy, rfl, rfl, em, fin h g2⟩
            | some j =>
              intro C d H2 G2 hC g2 hd2
              rw [S.at_ y hy] at hC
              cases hC
              obtain ⟨G3, g3, _, h3⟩ := g2.xdK hd2
              exact hE _ _ H2 ⟨G3, y, some j, xs, g3.s, hy, rfl, ⟨d, rfl, h3⟩, em, fin h g3⟩
          · exact h.elim
        · exact h.elim
  · exact h.elim
end Vs
end
section
namespace Vs
open PySem PySem.Spec PyProof.Rows L2
variable {w : Wd} {W : WX}
/-! ## C(e, ..).m() where the making raises -/
section
variable {X : Cx} {k : Nat} {f C : Addr} {fd : FuncData} {ps : List Str} {sp : Sp} {E : L2.St → XK} {x mn : Str} {p pos : Pos} {e : Expr} {es : List Expr} {t : TA} {fs : Sl → M (List R)}
/-- as pe_make, the exceptions wished for at these very slots -/
theorem pe_makeS (mk : Mk X.K C f) (F : FnOk X.prog X.w X.K X.mg X.base (L2.CX X.prog X.w) k f fd ps sp) (hr : Room (k + 1) X.A) (hg : Gl X x) (hm : X.mg x = some (.ref C)) (hb : Binds X.K fd ps []) (hx : ∀ σ, PassesAt (L2.CX X.prog X.w) X σ (E σ))
    (ha : PA X (e :: es) t) (hdb : (x == ("__debug__" : Str)) = false := by decide) (he : starEach (e :: es) X.env = (false, eval e X.env) :: starEach es X.env := by rfl) (hpl : (backTo pos (starEach es X.env)).any (·.1) = false := by rfl) :
    PE X (.Call (.Name x p) (e :: es) [] pos) (fun σ H Q => tMake C sp [] (E σ) t σ H Q) := by
  constructor
  intro pins s0 σ H Q inv wish
  apply wpAny_Call_Name_kw
  apply ld_glob inv hg hm (hd := hdb)
  refine PySem.W.callWith_K (h₀ := X.base) inv.ok.mod.kin mk.kp (thn (ha.run pos pins s0 σ H _ inv wish) ?_) he hpl
  rintro us s1 ⟨vs, H1, J, rel, go⟩
  refine ⟨J.kIn, ?_⟩
  let n0 := s1.heap.objs.size
  have free : ∀ a, n0 ≤ a → H1 a = none := fun a ha => J.hok.fresh ha
  have run := go (n0 + 1) n0 (free _ (Nat.le_succ _)) (free _ (Nat.le_refl _)) (Nat.ne_of_lt (Nat.lt_succ_self _))
  rw [List.append_nil] at run
  have J2 := Inv.made (C := C) J
  have rel2 : Vals (V.ref (n0 + 1) :: vs) (Value.ref (n0 + 1) :: us) := .cons rfl rel
  have len2 : (Value.ref (n0 + 1) :: us).length = ps.length := rel2.length.symm.trans (F.len _ _ _ _ run)
  have bnd := hb _ (Value.ref (n0 + 1) :: us) J2.kIn (by rw [List.append_nil]; exact len2)
  rw [List.append_nil] at bnd
  apply wpAny_call
  refine make_map (f := f) J.kIn mk.makes mk.init (beq_iff_eq.mp mk.fn) (codeAny_mono (F.run _ X.stack _ _ ⟨Value.ref (n0 + 1) :: us, []⟩ _ _ _ (E σ) (hr.make C us []) (J2.env0.make C us []) bnd rel2 run) ?_)
  intro r s2 out
  match r, out with
  | .error ev, out => exact hx σ pins _ _ ev s2 J2 out
  | .ok (.ret u), out =>
    obtain ⟨v, H3, J3, rv, rfl, q3⟩ := J2.after out
    exact ⟨rv, ⟨V.ref (n0 + 1), H3, J3, rfl, q3⟩⟩
  | .ok .next, out => exact out.elim
  | .ok .brk, out => exact out.elim
  | .ok .cont, out => exact out.elim
end
/-- the maker as one that only reads the new instance -/
structure MkrR (P : Program) (wd : World) (w : Wd) (base : Heap) (x : Str) (k n : Nat) (m : List R → M R) : Prop where
  ex : ∃ C f fd ps, w.mg x = some (.ref C) ∧ Cls w.K C ∧ Mk w.K C f ∧ FnOk P wd w.K w.mg base (L2.CX P wd) k f fd ps (spM w (n + 1) m) ∧ Binds w.K fd ps []
theorem MkrR.mono {P : Program} {wd : World} {base : Heap} {x : Str} {j k n : Nat} {m : List R → M R} (D : MkrR P wd w base x j n m) (h : j ≤ k) : MkrR P wd w base x k n m := by
  obtain ⟨C, f, fd, ps, a, b, c, F, d⟩ := D.ex
  exact ⟨C, f, fd, ps, a, b, c, F.mono h, d⟩
def eMkX (x : Str) (n : Nat) (m : List R → M R) (fs : Sl → M (List R)) : Sl → M R := fun env => (fs env).bind fun rs => if rs.length = n ∧ nOwn rs = true then (match m (.io x [] :: rs) with
  | .error (.exc z none) => .error (.exc z none)
  | _ => .error .stuck) else .error .stuck
section
variable {X : Cx} {e : Expr} {es : List Expr} {fs : Sl → M (List R)}
theorem xe_mkx {x mn : Str} {px p2 p3 p4 : Pos} {k k2 n n2 : Nat} {m : List R → M R} {m2 : List R → M R} {pl : Sem Bool} (ok : w.Ok) (hK : X.K = w.K) (hM : X.mg = w.mg) (D1 : MkrR X.prog X.w w X.base x k n m) (D2 : MthR X.prog X.w w X.base x mn k2 n2 m2) (hr : Room (k + 1) X.A) (hr2 : Room k2 X.A) (tk : Takes X W) (hg : Gl X x)
    (ha : PA X (e :: es) (rdA w W fs)) (hdb : (x == ("__debug__" : Str)) = false := by decide) (he : starEach (e :: es) X.env = (false, eval e X.env) :: starEach es X.env := by rfl) (hpl : (backTo p2 (starEach es X.env)).any (·.1) = false := by rfl)
    (ht : eval (.Call (.Attribute (.Call (.Name x px) (e :: es) [] p2) mn p3) [] [] p4) X.env = (do
      let ov ← eval (.Call (.Name x px) (e :: es) [] p2) X.env
      standAt p3.atName
      let (f, first) ← holding [ov] (getMethod ov mn pl)
      callWith p4 f first (backTo p4 (starEach [] X.env)) (backToKw p4 (keywordEach [] X.env))) := by rfl)
    (hcx : ∀ CX', CX' = L2.CX X.prog X.w → Passes CX' X E0 := by rintro _ rfl; exact passL) :
    PE X (.Call (.Attribute (.Call (.Name x px) (e :: es) [] p2) mn p3) [] [] p4) (rdE w W (eMkX x n m fs)) := by
  obtain ⟨C, f1, fd1, ps1, hC, cc, hmk, F1, hb1⟩ := D1.ex
  obtain ⟨C2, f2, fd2, ps2, hC2, _, hm2, F2, hb2⟩ := D2.ex
  rw [hC] at hC2
  cases hC2
  have hCm := hC
  rw [← hM] at hCm
  rw [← hK, ← hM] at F1 F2
  rw [← hK] at cc hmk hm2 hb1 hb2
  refine PEi (pe_meth0 (E := E0) (pl := pl) (pe_makeS (E := WE W) hmk F1 hr hg hCm hb1 (fun σ => passAt tk σ) ha hdb he hpl) cc hm2 F2 hr2 hb2 .nil (hcx _ rfl) ht) fun σ H Q h => ?_
  obtain ⟨H0, B, env, G, g, s, h⟩ := h
  refine ⟨H0, B, env, G, g, s, ?_⟩
  unfold eMkX at h
  cases e3 : fs env with
  | error er => rw [e3] at h; exact PostE.err.mp h
  | ok rs =>
    rw [e3] at h
    intro vs H1 G1 g1 rr fr
    have h : PostE w W σ H G (if rs.length = n ∧ nOwn rs = true then (match m (.io x [] :: rs) with
      | .error (.exc z none) => .error (.exc z none)
      | _ => .error .stuck) else .error .stuck) Q := h
    split at h
    · rename_i c
      split at h
      · rename_i z em
        intro x0 dx nx nd hne
        have s2 : Same G1 (upd (upd H1 dx (.own x0)) x0 (.ins C dx [])) := fun a o q => by
          rw [upd_ne (fun e => by rw [e, g1.s.free nx] at q; cases q), upd_ne (fun e => by rw [e, g1.s.free nd] at q; cases q)]
          exact g1.s a o q
        have n1 : G1 x0 = none := g1.s.free nx
        have gr : Grow H1 G1 (upd (upd H1 dx (.own x0)) x0 (.ins C dx [])) (upd G1 x0 (.ins C dx [])) := by
          refine ⟨fun a o q => ?_, Same.new n1, fun a o q => ?_, fun b o f n q => ?_⟩
          · rw [upd_ne (fun e => by rw [e, nx] at q; cases q), upd_ne (fun e => by rw [e, nd] at q; cases q)]
            exact q
          · by_cases hb : a = x0
            · subst hb; rw [upd_same] at q ⊢; exact q
            · rw [upd_ne hb] at q; exact s2 a o q
          · rw [upd_ne (fun e => by rw [e, nx] at q; cases q)]; exact n
        rw [List.append_nil]
        refine ⟨by rw [List.length_cons, rr.length, c.1], upd G1 x0 (.ins C dx []), .io x [] :: rs, gr.s, .cons ⟨x0, C, dx, [], rfl, hC, upd_same, .nil⟩ (rr.mono ok gr), fun r hr => ?_, ?_⟩
        · rcases List.mem_cons.mp hr with rfl | hr
          · rfl
          · exact nOwn_ok c.2 r hr
        · rw [em]
          intro C' H' G' hz g2
          exact h C' H' _ hz (g1.trans (gr.trans g2))
      · exact h.elim
    · exact h.elim
end
end Vs
end
section
namespace Vs
open PySem PySem.Spec PyProof.Rows L2
open LamX (ExtN Tabs TabS TabB LawAtS law_callTs)
/-! ## the end of a law, some defs' tables known, no two the same -/
def tabP (K : PySem.W.Frag) (dn : Str) : Addr := match K.lookup (He.ga K dn) with
  | some o => (match o.data with
    | .func fd => (match fd.code with
      | .ref c => (match K.lookup c with
        | some oc => (match oc.data with
          | .fields vs => (match (vs[11]? : Option Value) with
            | some (Value.ref P) => P
            | _ => 0)
          | _ => 0)
        | none => 0)
      | _ => 0)
    | _ => 0)
  | none => 0
theorem tab_atP {K : PySem.W.Frag} {h : Heap} {mg : Str → Option Value} {dn : Str} (KX : K.In h) (hb : tabB K dn = true) (hm : mg dn = some (.ref (He.ga K dn))) (t : TabOf mg h dn) :
    ∃ (c : Addr) (fd : FuncData), (∃ o, K.lookup (He.ga K dn) = some o ∧ o.data = .func fd) ∧ fd.code = .ref c ∧ PySem.W.CodeHd h c (tabP K dn) ∧ h.get? (tabP K dn) = some { cls := .none, data := .fields #[] } ∧ K.lookup (tabP K dn) = none := by
  obtain ⟨c, P, fd, ⟨o, l1, d1⟩, e1, hd, hP, nP⟩ := tab_at KX hb hm t
  have e : tabP K dn = P := by
    unfold tabB at hb
    rw [l1] at hb
    dsimp only at hb
    rw [d1] at hb
    dsimp only at hb
    rw [e1] at hb
    dsimp only at hb
    obtain ⟨oc, vs, file, tf, flags, tg, inF, text, tt, g1, g2, g3, g4, _⟩ := hd
    cases q : K.lookup c with
    | none => rw [q] at hb; cases hb
    | some oc' =>
      have := KX _ _ q
      rw [g1] at this
      cases this
      unfold tabP
      rw [l1]
      dsimp only
      rw [d1]
      dsimp only
      rw [e1]
      dsimp only
      rw [q]
      dsimp only
      rw [g3]
      dsimp only
      rw [g4]
  subst e
  exact ⟨c, fd, ⟨o, l1, d1⟩, e1, hd, hP, nP⟩
def tabsB (K : PySem.W.Frag) (dns : List Str) : Bool := (dns.all fun d => tabB K d) && decide ((dns.map (tabP K)).Nodup)
theorem walk_ofTbs {l : PySem.W.OpenLaw} {n k : Nat} {q : Program} {loose : List Str} {XP : (Str → Option Value) → Heap → Prop} {YP : World → Heap → Prop} {d : DefRec} {CX : World → CXT} {x : Str} (dns : List Str)
    (hn : l.most = some n) (hn2 : n ≤ sizeLine) (hdf : d.params.defaults = []) (hr : Room k callerA) (hrec : (dns.all fun dn => (recsOf q).any fun e => e.name == dn) = true)
    (F : ∀ (w : World) (mg : Str → Option Value) (fa : Addr) (h : Heap), YP w h → h.Ns mainGlobals mg → mg d.name = some (.ref fa) → (∀ dn ∈ dns, TabOf mg h dn) → ∃ K : PySem.W.Frag, K.In h ∧ LawAtS l w K (CX w) k n x mg fa h)
    (hCX : ∀ (w : World) (H : Hp) (s : Shared) (e : Value) (s' : Shared), CX w [] H s (fun _ _ _ => False) e s' → False) :
    PySem.W.WalkO q loose XP YP l.row.toRowW d [] (fun f vs => PySem.call f vs) := by
  refine Att.attach_callB hn hdf fun w s₀ s₁ mg mb fa o pm cd doc a vs ns G Y ho hd hcd hmg hobj hints hlen hbits hg => ?_
  have tb : ∀ dn ∈ dns, TabOf mg s₁.heap dn := fun dn hdn => by
    obtain ⟨dL, hm, hn1⟩ := List.any_eq_true.mp (List.all_eq_true.mp hrec dn hdn)
    have hn2 : dL.name = dn := beq_iff_eq.mp hn1
    obtain ⟨a', o', fd', c', P', h1, h2, h3, h4, h5, h6⟩ := G.T.tab dL hm
    rw [hn2] at h1
    obtain ⟨⟨oc, vc, e1, _, e3, e4⟩, hP⟩ := h6
    exact ⟨a', o', fd', c', P', h1, h2, h3, h4, ⟨oc, vc, e1, e3, e4⟩, hP⟩
  obtain ⟨K, KX, fd, cs, sp, hT, nT, C, hb, hsp, hF⟩ := F w mg fa _ Y G.T.g hmg tb
  exact law_callTs KX G.T.g G.T.b G.T.builtins G.T.nolimit hg hT nT C G.T.bmain hobj hints (Nat.le_trans hlen hn2) hr hF hb (fun H hH hS => hsp H a ns hlen hbits hH hS) fun H e s' => hCX w H s₁ e s'
/-- three of them -/
def lamN (d : Str) : Str := d ++ ".<locals>." ++ "<lambda>"
def tabsT (K : PySem.W.Frag) (dns : List Str) : List (Addr × Str) := dns.map fun d => (tabP K d, lamN d)
theorem tabsT_uniq {K : PySem.W.Frag} {dns : List Str} (h : tabsB K dns = true) {d : Str} (hd : d ∈ dns) : (tabP K d, lamN d) ∈ tabsT K dns ∧ ∀ p ∈ tabsT K dns, p.1 = tabP K d → p.2 = lamN d := by
  refine ⟨List.mem_map.mpr ⟨d, hd, rfl⟩, fun p hp e => ?_⟩
  obtain ⟨d2, hd2, rfl⟩ := List.mem_map.mp hp
  have nd := of_decide_eq_true (Bool.and_eq_true_iff.mp h).2
  have : d2 = d := by
    have aux : ∀ l : List Str, (l.map (tabP K)).Nodup → d2 ∈ l → d ∈ l → tabP K d2 = tabP K d → d2 = d := by
      intro l
      induction l with
      | nil => intro _ h; cases h
      | cons a l ih =>
        intro hn h1 h2 he
        rw [List.map_cons, List.nodup_cons] at hn
        rcases List.mem_cons.mp h1 with e1 | m1
        · rcases List.mem_cons.mp h2 with e2 | m2
          · rw [e1, e2]
          · rw [← e1] at hn
            exact absurd (List.mem_map.mpr ⟨d, m2, he.symm⟩) hn.1
        · rcases List.mem_cons.mp h2 with e2 | m2
          · rw [← e2] at hn
            exact absurd (List.mem_map.mpr ⟨d2, m1, he⟩) hn.1
          · exact ih hn.2 m1 m2 he
    exact aux dns nd hd2 hd e
  rw [this]
theorem tabs_nil {K : PySem.W.Frag} {dns : List Str} {cs : List (Addr × Addr)} {H : Hp} (hcs : cs.map (·.2) = dns.map (tabP K)) (hT : ∀ p ∈ cs, H p.2 = some (.tbl #[])) : Tabs (tabsT K dns) H := fun p hp => by
  obtain ⟨d, hd, rfl⟩ := List.mem_map.mp hp
  have hm : tabP K d ∈ cs.map (·.2) := by rw [hcs]; exact List.mem_map.mpr ⟨d, hd, rfl⟩
  obtain ⟨q, hq, e⟩ := List.mem_map.mp hm
  have := hT q hq
  rw [e] at this
  exact TabS.nil this
/-- a def's code object, as the head's fragment holds it -/
theorem code_at {K : PySem.W.Frag} {mg : Str → Option Value} {dn : Str} {c : Addr} {fdt : FuncData} (hm : mg dn = some (.ref (He.ga K dn))) (hl : ∃ o, K.lookup (He.ga K dn) = some o ∧ o.data = .func fdt) (ec : fdt.code = .ref c) :
    ∀ (f : Addr) (fd : FuncData), mg dn = some (.ref f) → (∃ o : Obj, K.lookup f = some o ∧ o.data = .func fd) → fd.code = .ref c := by
  rintro f fd h1 ⟨o, h2, h3⟩
  obtain ⟨ot, lt, dt⟩ := hl
  rw [hm] at h1
  cases h1
  rw [lt] at h2
  cases h2
  rw [dt] at h3
  cases h3
  exact ec
end Vs
end
section
namespace Vs
open PySem PySem.Spec PyProof.Rows L2
/-! ## len(set(xs)) of pairs of ints, some of which may be alike -/
def tLenU (K : PySem.W.Frag) (ta : TE) : TE := fun σ H Q => ta σ H fun x H1 => ∃ (l : Addr) (ks : List (Addr × Int × Int)), x = .ref l ∧ SqL K H1 l (ks.map fun q => V.ref q.1) ∧ (∀ q ∈ ks, H1 q.1 = some (.tup [.int q.2.1, .int q.2.2])) ∧ (uqP (ks.map fun q => q.2)).length ≤ 76 ∧
  Q (.int (uqP (ks.map fun q => q.2)).length) H1
theorem pe_lenU {X : Cx} {a : Expr} {ta : TE} {p1 p2 q1 q2 : Pos} (g1 : Gl X "len") (m1 : X.mg "len" = none) (g2 : Gl X "set") (m2 : X.mg "set" = none) (pa : PE X a ta) (calm : X.calm = true) (hu : X.A.units + 64 < cLine) (st : starEach [a] X.env = (false, eval a X.env) :: starEach [] X.env := by rfl) :
    PE X (.Call (.Name "len" p1) [.Call (.Name "set" p2) [a] [] q1] [] q2) (tLenU X.K ta) := by
  constructor
  intro pins s σ H Q I h
  refine Call_ (ld_blt I g1 m1 boot_len ?_)
  apply PyProof.Rows.callWith_builtin1 (PyProof.Rows.args_cons ?_ rfl) rfl rfl
  refine Call_ (ld_blt I g2 m2 boot_set ?_)
  apply PyProof.Rows.callWith_type1 (PyProof.Rows.args_cons (thn (pa.run pins s σ H _ I h) ?_) st) st rfl
  rintro v s1 ⟨x, H1, J, rx, l, ks, e, hq, tp, few, q⟩
  subst e
  cases rx
  apply PyProof.Rows.args_nil
  obtain ⟨its, rv, pl, hz⟩ := J.list hq
  let kk : List (Addr × List Int) := ks.map fun q => (q.1, [q.2.1, q.2.2])
  have ekk : (ks.map fun q => V.ref q.1) = kk.map fun q => V.ref q.1 := by rw [List.map_map]; rfl
  rw [ekk] at rv
  have tpk : ∀ z ∈ kk, IsT X.prog X.w s1.heap z.2 z.1 := fun z hz => by
    obtain ⟨q, hq, rfl⟩ := List.mem_map.mp hz
    exact J.isT (SqT.of (tp q hq))
  let D : List (List Int) := (uqP (ks.map fun q => q.2)).map fun p => [p.1, p.2]
  refine call_bagB (P := X.prog) (w := X.w) kk D (J.ok.hd calm) pl.isList (by simpa using refs_of_vals rv) tpk (by rw [List.length_map]; exact few)
    (fun z hz => by
      obtain ⟨q, hq, rfl⟩ := List.mem_map.mp hz
      exact List.mem_map.mpr ⟨q.2, mem_uqP.mpr (List.mem_map.mpr ⟨q, hq, rfl⟩), rfl⟩) (by omega) fun g tk L es ep t b hd kp => ?_
  apply PyProof.Rows.args_nil
  have J2 : Inv X pins σ H1 { s1 with heap := g, toks := tk } := J.kept kp
  obtain ⟨o, ho, hex, hdt⟩ := b.at_
  have fits : t.fits es.size = true := Bag.fits (s := { s1 with heap := g }) b
  have lk : ∀ q ∈ L, ∃ z ∈ ks, q.1 = z.1 ∧ q.2 = [z.2.1, z.2.2] := fun q hq => by
    have h1 := List.mem_of_mem_take (hd.sub q hq)
    obtain ⟨z, hz, e⟩ := List.mem_map.mp h1
    exact ⟨z, hz, by rw [← e], by rw [← e]⟩
  have nD : D.Nodup := List.pairwise_map.mpr ((uqP_nd _).imp fun {p q} hne e => hne (by
    injection e with a1 a2
    injection a2 with a2 _
    exact Prod.ext a1 a2))
  have pm : (L.map fun q => q.2).Perm D := (List.perm_ext_iff_of_nodup b.un nD).mpr fun y => by
    constructor
    · intro hy
      obtain ⟨q, hq, rfl⟩ := List.mem_map.mp hy
      obtain ⟨z, hz, _, e⟩ := lk q hq
      exact List.mem_map.mpr ⟨z.2, mem_uqP.mpr (List.mem_map.mpr ⟨z, hz, rfl⟩), e.symm⟩
    · intro hy
      obtain ⟨p, hp, rfl⟩ := List.mem_map.mp hy
      obtain ⟨z, hz, rfl⟩ := List.mem_map.mp (mem_uqP.mp hp)
      have mz : (z.1, [z.2.1, z.2.2]) ∈ kk.take kk.length := by rw [List.take_length]; exact List.mem_map.mpr ⟨z, hz, rfl⟩
      exact hd.all _ mz
  have lL : L.length = (uqP (ks.map fun q => q.2)).length := by
    have := pm.length_eq
    rw [List.length_map, List.length_map] at this
    exact this
  have sz := (row_sz b.row).trans lL
  exact call_len_set ho hex hdt fits (by rw [sz]; omega) ⟨.int ((uqP (ks.map fun q => q.2)).length : Nat), H1, J2.tok _, ⟨_, by rw [sz]⟩, q⟩
def oLsetU : R → M R := fun r => match r.sq?.bind prs? with
  | some ps => if (uqP ps).length ≤ 76 then .ok (.d (.int (uqP ps).length)) else .error .stuck
  | none => .error .stuck
variable {w : Wd} {W : WX}
theorem xe_lenSetU {X : Cx} {k : Nat} {a : Expr} {fa : Sl → M R} {p1 p2 q1 q2 : Pos} (ok : w.Ok) (hK : X.K = w.K) (hr : Room k X.A) (hc : X.calm = true) (hg : Gl X "len") (hm : X.mg "len" = none) (hg2 : Gl X "set") (hm2 : X.mg "set" = none) (ha : PE X a (rdE w W fa))
    (na : starEach [a] X.env = (false, eval a X.env) :: starEach [] X.env := by rfl) : PE X (.Call (.Name "len" p1) [.Call (.Name "set" p2) [a] [] q1] [] q2) (rdE w W (eUn oLsetU fa)) := by
  refine PEi (pe_lenU hg hm hg2 hm2 ha hc (room64 hr) na) fun σ H Q h => ?_
  obtain ⟨H0, B, env, G, g, x, h⟩ := h
  refine rdE_bind ok g x h fun r v H1 G1 g1 rr _ g01 x1 h1 => ?_
  unfold oLsetU at h1
  split at h1
  · rename_i ps e1
    split at h1
    · rename_i c
      rw [Option.bind_eq_some_iff] at e1
      obtain ⟨xs, e2, e3⟩ := e1
      rw [prs_eq e3] at e2
      obtain ⟨l, vs, rfl, hq, hr⟩ := rr.sq g1.s e2
      obtain ⟨ks, f1, f2, f3⟩ := prs_keys2 g1.s hr
      rw [f1] at hq
      refine ⟨l, ks, rfl, by rw [hK]; exact hq, fun q hq => g1.s _ _ (f3 q hq), by rw [f2]; exact c, ?_⟩
      rw [f2]
      exact h1.done g1.s (.int _) (Fr.no rfl)
    · exact h1.elim
  · exact h1.elim
end Vs
end
section
namespace Vs
open PySem PySem.Spec PyProof.Rows L2
variable {w : Wd} {W : WX}
/-! ## methods that raise before they change anything -/
section
variable {X : Cx} {k : Nat} {f C : Addr} {fd : FuncData} {ps : List Str} {sp : Sp} {E : L2.St → XK} {mn : Str} {pos apos : Pos} {o e : Expr} {es : List Expr} {ta : TE} {t : TA}
theorem run_fnE {pins : List (Addr × Obj)} {σ : L2.St} {H : Hp} {s : Shared} {Q : VK} {us : List Value} {vs : List V} (F : FnOk X.prog X.w X.K X.mg X.base (L2.CX X.prog X.w) k f fd ps sp) (hr : Room k X.A) (hb : Binds X.K fd ps []) (hx : PassesAt (L2.CX X.prog X.w) X σ (E σ))
    (inv : Inv X pins σ H s) (rel : Vals vs us) (want : sp vs H Q (E σ)) : wpAny (model X.prog X.w) X.A (call (.ref f) us) (EP X pins σ Q) X.xe s := by
  have len := rel.length.symm.trans (F.len _ _ _ _ want)
  have bnd := hb s us inv.kIn (by rw [List.append_nil]; exact len)
  rw [List.append_nil] at bnd
  apply wpAny_call
  refine codeAny_mono (F.run X.A X.stack s H ⟨us, []⟩ us vs Q (E σ) hr inv.env0 bnd rel want) ?_
  intro r s2 out
  match r, out with
  | .error ev, out => exact hx pins _ _ ev s2 inv out
  | .ok (.ret u), out => exact inv.after out
  | .ok .next, out => exact out.elim
  | .ok .brk, out => exact out.elim
  | .ok .cont, out => exact out.elim
theorem pe_methS {pl : Sem Bool} (he : PE X o ta) (c : Cls X.K C) (hm : Meth X.K C mn f) (F : FnOk X.prog X.w X.K X.mg X.base (L2.CX X.prog X.w) k f fd ps sp) (hr : Room k X.A) (hb : Binds X.K fd ps []) (hx : ∀ σ, PassesAt (L2.CX X.prog X.w) X σ (E σ)) (ha : PA X (e :: es) t)
    (hst : starEach (e :: es) X.env = (false, eval e X.env) :: starEach es X.env := by rfl) (hpl : (backTo pos (starEach es X.env)).any (·.1) = false := by rfl)
    (ht : eval (.Call (.Attribute o mn apos) (e :: es) [] pos) X.env = (do
      let ov ← eval o X.env
      standAt apos.atName
      let (f, first) ← holding [ov] (getMethod ov mn pl)
      callWith pos f first (backTo pos (starEach (e :: es) X.env)) (backToKw pos (keywordEach [] X.env))) := by rfl) :
    PE X (.Call (.Attribute o mn apos) (e :: es) [] pos) (fun σ H Q => tMeth C mn sp [] (E σ) ta t σ H Q) := by
  constructor
  intro pins s σ H Q inv want
  refine PySem.W.methodCall_KW (pl := pl) (thn (he.run pins s σ H _ inv want) ?_) ht
  rintro u s1 ⟨x, H1, J, rx, a, dx, fs, rfl, ea, l, q⟩
  cases rx
  refine getmeth_ok J ea c hm l ?_
  refine PySem.W.callWith_K (first := [.ref a]) (h₀ := X.base) J.ok.mod.kin hm.kp (thn (ha.run pos pins s1 σ H1 _ J q) ?_) hst hpl
  rintro us s2 ⟨vs, H2, J2, r, q2⟩
  rw [List.append_nil] at q2
  exact ⟨J2.kIn, run_fnE (us := .ref a :: us) (vs := .ref a :: vs) F hr hb (hx σ) J2 (.cons rfl r) q2⟩
theorem pe_methS0 {pl : Sem Bool} (he : PE X o ta) (c : Cls X.K C) (hm : Meth X.K C mn f) (F : FnOk X.prog X.w X.K X.mg X.base (L2.CX X.prog X.w) k f fd ps sp) (hr : Room k X.A) (hb : Binds X.K fd ps []) (hx : ∀ σ, PassesAt (L2.CX X.prog X.w) X σ (E σ))
    (ht : eval (.Call (.Attribute o mn apos) [] [] pos) X.env = (do
      let ov ← eval o X.env
      standAt apos.atName
      let (f, first) ← holding [ov] (getMethod ov mn pl)
      callWith pos f first (backTo pos (starEach [] X.env)) (backToKw pos (keywordEach [] X.env))) := by rfl) :
    PE X (.Call (.Attribute o mn apos) [] [] pos) (fun σ H Q => tMeth C mn sp [] (E σ) ta tNil σ H Q) := by
  constructor
  intro pins s σ H Q inv want
  refine PySem.W.methodCall_KW (pl := pl) (thn (he.run pins s σ H _ inv want) ?_) ht
  rintro u s1 ⟨x, H1, J, rx, a, dx, fs, rfl, ea, l, q⟩
  cases rx
  refine getmeth_ok J ea c hm l ?_
  exact PySem.W.callWith_K0 (first := [.ref a]) J.kIn hm.kp (run_fnE (us := [.ref a]) (vs := [.ref a]) F hr hb (hx σ) J (.cons rfl .nil) q)
end
/-- both promises of one def -/
theorem fn_or {P : Program} {wd : World} {K : PySem.W.Frag} {mg : Str → Option Value} {base : Heap} {CX : CXT} {k : Nat} {f : Addr} {fd : FuncData} {ps : List Str} {sp1 sp2 : Sp} (F1 : FnOk P wd K mg base CX k f fd ps sp1) (F2 : FnOk P wd K mg base CX k f fd ps sp2) :
    FnOk P wd K mg base CX k f fd ps (fun vs H Q E => sp1 vs H Q E ∨ sp2 vs H Q E) :=
  ⟨fun vs H Q E h => h.elim (F1.len vs H Q E) (F2.len vs H Q E), fun A outer s H args us vs Q E hr e0 hb hv h => h.elim (F1.run A outer s H args us vs Q E hr e0 hb hv) (F2.run A outer s H args us vs Q E hr e0 hb hv)⟩
/-- a method, told as one that may change the instance, and as one that only reads it -/
structure MthX (P : Program) (wd : World) (w : Wd) (base : Heap) (x mn : Str) (k n : Nat) (m : Mo) (mr : List R → M R) : Prop where
  ex : ∃ C f fd ps, w.mg x = some (.ref C) ∧ Cls w.K C ∧ Meth w.K C mn f ∧ FnOk P wd w.K w.mg base (L2.CX P wd) k f fd ps (spO w x n m) ∧ FnOk P wd w.K w.mg base (L2.CX P wd) k f fd ps (spM w (n + 1) mr) ∧ Binds w.K fd ps []
theorem MthX.mono {P : Program} {wd : World} {base : Heap} {x mn : Str} {j k n : Nat} {m : Mo} {mr : List R → M R} (D : MthX P wd w base x mn j n m mr) (h : j ≤ k) : MthX P wd w base x mn k n m mr := by
  obtain ⟨C, f, fd, ps, a, b, c, F, F2, d⟩ := D.ex
  exact ⟨C, f, fd, ps, a, b, c, F.mono h, F2.mono h, d⟩
theorem MthX.mth {P : Program} {wd : World} {base : Heap} {x mn : Str} {k n : Nat} {m : Mo} {mr : List R → M R} (D : MthX P wd w base x mn k n m mr) : Mth P wd w base x mn k n m := by
  obtain ⟨C, f, fd, ps, a, b, c, F, F2, d⟩ := D.ex
  exact ⟨C, f, fd, ps, a, b, c, F, d⟩
/-- a value and the slots behind it, or an exception, nothing changed -/
def PostMX (w : Wd) (W : WX) (σ : L2.St) (H0 B H G : Hp) : M (PD × Sl) → VK → Prop
  | .ok (d, env), Q => ∀ v H' G', Grow H0 B H' G' → Same G G' → Sim w H0 env σ H' G' → Rp G' v d → Q v H'
  | .error e, _ => PostX w W σ H G e
def rdMX (w : Wd) (W : WX) (f : Sl → M (PD × Sl)) : TE := fun σ H Q => ∃ H0 B env G, Grow H0 B H G ∧ Sim w H0 env σ H G ∧ PostMX w W σ H0 B H G (f env) Q
theorem PostMX.more {σ : L2.St} {H0 B H G H1 G1 : Hp} {m : M (PD × Sl)} {Q : VK} (g : Grow H G H1 G1) (h : PostMX w W σ H0 B H G m Q) : PostMX w W σ H0 B H1 G1 m Q := by
  cases m with
  | error e => exact PostX.grow g h
  | ok r => exact fun v H' G' g2 s x rv => h v H' G' g2 (g.g.trans s) x rv
theorem RrL.same {H G G' : Hp} (ok : w.Ok) (s : Same G G') {vs : List V} {rs : List R} (h : RrL w H G vs rs) : (∀ r ∈ rs, r.own = false) → RrL w H G' vs rs := by
  induction h with
  | nil => intro _; exact .nil
  | cons r1 _ ih =>
    intro ho
    refine .cons (r1.keep ok s fun a o f _ => ?_) (ih fun r hr => ho r (List.mem_cons_of_mem _ hr))
    have := foot_own f
    rw [ho _ List.mem_cons_self] at this
    cases this
def mthX (x : Str) (i n : Nat) (mn : Str) (m : Mo) (mr : List R → M R) (env : Sl) (rs : List R) : M (PD × Sl) := match env[i]? with
  | some (some (.o (some p) y fl)) => if y = x ∧ fl.lookup mn = none ∧ rs.length = n ∧ nOwn rs = true then (match m p fl rs with
    | .ok q => (dOf q.1).bind fun d => .ok (d, env.set i (some (.o (some p) y q.2)))
    | .error _ => (match mr (.io y fl :: rs) with
      | .error (.exc z none) => .error (.exc z none)
      | _ => .error .stuck)) else .error .stuck
  | _ => .error .stuck
def mMthX (x : Str) (i n : Nat) (mn : Str) (m : Mo) (mr : List R → M R) (fs : Sl → M (List R)) : Sl → M (PD × Sl) := fun env => if isO x i mn env then (fs env).bind (mthX x i n mn m mr env) else .error .stuck
theorem rd_methX {fs : Sl → M (List R)} {x mn : Str} {i n : Nat} {m : Mo} {mr : List R → M R} {C : Addr} (ok : w.Ok) (hC : w.mg x = some (.ref C)) (σ : L2.St) (H : Hp) (Q : VK) (h : rdMX w W (mMthX x i n mn m mr fs) σ H Q) :
    tMeth C mn (fun vs H Q E => spO w x n m vs H Q E ∨ spM w (n + 1) mr vs H Q E) [] (WE W σ) (tVar i) (rdA w W fs) σ H Q := by
  obtain ⟨H0, B, env, G, g, s, h⟩ := h
  unfold mMthX at h
  split at h
  · rename_i hi
    unfold isO at hi
    split at hi
    · rename_i p0 y fl e1
      simp only [Bool.and_eq_true, decide_eq_true_eq, Option.isNone_iff_eq_none] at hi
      obtain ⟨rfl, hk⟩ := hi
      obtain ⟨_, v, hv, ro, _⟩ := s.at_ i _ e1
      have := ro.isP
      subst this
      obtain ⟨p1, C1, dx, vf, e9, _, m1, n1, hp, fr1⟩ := ro
      cases e9
      rw [hC] at m1
      cases m1
      refine ⟨.ref p0, hv, p0, dx, vf, rfl, hp, fr1.keys hk, H0, B, env, G, g, s, ?_⟩
      cases e3 : fs env with
      | error er => rw [e3] at h; exact h
      | ok rs =>
        rw [e3] at h
        intro vs H1 G1 g1 rr fr
        have h : PostMX w W σ H0 B H G (mthX y i n mn m mr env rs) Q := h
        have h := PostMX.more g1 h
        have s1 := s.grow ok g1
        unfold mthX at h
        rw [e1] at h
        dsimp only at h
        rw [List.append_nil]
        split at h
        · rename_i hc
          obtain ⟨_, _, hl, ho⟩ := hc
          obtain ⟨_, v1, hv1, ro1, _⟩ := s1.at_ i _ e1
          rw [hv] at hv1
          cases hv1
          split at h
          · rename_i q e4
            cases e5 : dOf q.1 with
            | error er =>
              rw [e5] at h
              have : er = .stuck := by unfold dOf at e5; split at e5 <;> cases e5; rfl
              rw [this] at h
              exact h.elim
            | ok d =>
              rw [e5] at h
              refine .inl ⟨by rw [List.length_cons, rr.length, hl], p0, vs, G1, fl, rs, q.1, q.2, rfl, g1.s, ro1.noP, rr, nOwn_ok ho, e4, fun v H' G' gr ro' rv fv hf => ?_⟩
              have hd := dOf_ok e5
              rw [hd] at rv
              obtain ⟨sx, gx⟩ := s1.meth (r' := .o (some p0) y q.2) ok e1 hv gr rfl ro'.withP hf B (g.trans g1)
              exact h v H' G' gx gr.g sx rv
          · split at h
            · rename_i z em
              obtain ⟨p2, C2, dx2, vf2, e9, _, m2, n2, hp2, fr2⟩ := ro1
              cases e9
              rw [hC] at m2
              cases m2
              have inL : ∀ f u, (f, u) ∈ vf2 → u ∈ (V.ref p0 :: vf2.map (·.2)) := fun f u mm => List.mem_cons_of_mem _ (List.mem_map.mpr ⟨(f, u), mm, rfl⟩)
              refine .inr ⟨by rw [List.length_cons, rr.length, hl], addTo G1 H1 (V.ref p0 :: vf2.map (·.2)), .io y fl :: rs, addTo_h g1.s, .cons ⟨p0, C, dx2, vf2, rfl, hC, addTo_in List.mem_cons_self n2 hp2, fr2.toG g1.s inL⟩ (rr.same ok addTo_g (nOwn_ok ho)), fun r hr => ?_, ?_⟩
              · rcases List.mem_cons.mp hr with rfl | hr
                · rfl
                · exact nOwn_ok ho r hr
              · rw [em]
                intro C' H' G' hz g2
                exact h C' H' _ hz (Grow.drop (Grow.refl g1.s) g2)
            · exact h.elim
        · exact h.elim
    · cases hi
  · exact h.elim
section
variable {X : Cx} {a b c e : Expr} {es : List Expr} {pos p : Pos} {fs : Sl → M (List R)} {fm fm' : Sl → M (PD × Sl)} {ft : Sl → M Bool}
theorem xm_methX {x mn nm : Str} {p1 apos : Pos} {k n : Nat} {m : Mo} {mr : List R → M R} {pl : Sem Bool} (i : Nat) (ok : w.Ok) (hK : X.K = w.K) (hM : X.mg = w.mg) (D : MthX X.prog X.w w X.base x mn k n m mr) (hr : Room k X.A) (tk : Takes X W) (hx : PE X (.Name nm p1) (tVar i)) (ha : PA X (e :: es) (rdA w W fs))
    (hst : starEach (e :: es) X.env = (false, eval e X.env) :: starEach es X.env := by rfl) (hpl : (backTo pos (starEach es X.env)).any (·.1) = false := by rfl)
    (ht : eval (.Call (.Attribute (.Name nm p1) mn apos) (e :: es) [] pos) X.env = (do
      let ov ← eval (.Name nm p1) X.env
      standAt apos.atName
      let (f, first) ← holding [ov] (getMethod ov mn pl)
      callWith pos f first (backTo pos (starEach (e :: es) X.env)) (backToKw pos (keywordEach [] X.env))) := by rfl) :
    PE X (.Call (.Attribute (.Name nm p1) mn apos) (e :: es) [] pos) (rdMX w W (mMthX x i n mn m mr fs)) := by
  obtain ⟨C, f, fd, ps, hC, cc, hm, F1, F2, hb⟩ := D.ex
  have F := fn_or F1 F2
  rw [← hK, ← hM] at F
  rw [← hK] at cc hm hb
  exact PEi (pe_methS (E := WE W) (pl := pl) hx cc hm F hr hb (fun σ => passAt tk σ) ha hst hpl ht) (rd_methX ok hC)
theorem xm_methX0 {x mn nm : Str} {p1 apos : Pos} {k : Nat} {m : Mo} {mr : List R → M R} {pl : Sem Bool} (i : Nat) (ok : w.Ok) (hK : X.K = w.K) (hM : X.mg = w.mg) (D : MthX X.prog X.w w X.base x mn k 0 m mr) (hr : Room k X.A) (tk : Takes X W) (hx : PE X (.Name nm p1) (tVar i))
    (ht : eval (.Call (.Attribute (.Name nm p1) mn apos) [] [] pos) X.env = (do
      let ov ← eval (.Name nm p1) X.env
      standAt apos.atName
      let (f, first) ← holding [ov] (getMethod ov mn pl)
      callWith pos f first (backTo pos (starEach [] X.env)) (backToKw pos (keywordEach [] X.env))) := by rfl) :
    PE X (.Call (.Attribute (.Name nm p1) mn apos) [] [] pos) (rdMX w W (mMthX x i 0 mn m mr aNil)) := by
  obtain ⟨C, f, fd, ps, hC, cc, hm, F1, F2, hb⟩ := D.ex
  have F := fn_or F1 F2
  rw [← hK, ← hM] at F
  rw [← hK] at cc hm hb
  refine PEi (pe_methS0 (E := WE W) (pl := pl) hx cc hm F hr hb (fun σ => passAt tk σ) ht) fun σ H Q h => ?_
  obtain ⟨v, hv, a, dx, f, e1, e2, e3, h3⟩ := rd_methX ok hC σ H Q h
  refine ⟨v, hv, a, dx, f, e1, e2, e3, ?_⟩
  obtain ⟨H0, B, env, G, g, s, h3⟩ := h3
  exact h3 [] H G (Grow.refl g.s) .nil trivial
/-- a if c else b -/
def mIf (t : Sl → M Bool) (f g : Sl → M (PD × Sl)) : Sl → M (PD × Sl) := fun env => (t env).bind fun b => if b then f env else g env
theorem xm_ifX (ok : w.Ok) (hc : PT X c (rdT w W ft)) (ha : PE X a (rdMX w W fm)) (hb : PE X b (rdMX w W fm')) : PE X (.IfExp c a b pos) (rdMX w W (mIf ft fm fm')) := by
  refine PEi (pe_ifExp hc ha hb) fun σ H Q h => ?_
  obtain ⟨H0, B, env, G, g, x, h⟩ := h
  refine ⟨H0, B, env, G, g, x, ?_⟩
  unfold mIf at h
  cases q : ft env with
  | error er => rw [q] at h; exact h
  | ok t =>
    rw [q] at h
    intro H1 G1 g1
    have h := PostMX.more g1 h
    cases t with
    | true => exact ⟨H0, B, env, G1, g.trans g1, x.grow ok g1, h⟩
    | false => exact ⟨H0, B, env, G1, g.trans g1, x.grow ok g1, h⟩
/-! ### try: x = e except SwapError as n: y = n, e such a call -/
def sTryM (names : List Str) (j i k : Nat) (f : Sl → M (PD × Sl)) : Sl → M Oc := fun env => match f env with
  | .ok q => nxS (setS j (.d q.1) q.2)
  | .error (.exc z none) => if z ∈ names ∧ i < env.length ∧ k < env.length ∧ i ≠ k then .ok (.nx (((env.set i none).set k (some (.e z none))).set i none)) else .error .stuck
  | .error _ => .error .stuck
theorem xs_tryM {names : List Str} {j i k : Nat} {x n y : Str} {px py pn2 ps1 ps2 np pos' : Pos} (ok : w.Ok) (hK : X.K = w.K) (hM : X.mg = w.mg) (S : Xs w names) (hs : X.stack = X.env :: X.outer) (hf : X.env.frame = some X.env.locals) (hex : X.ex = []) (hN : X.N.Nodup)
    (hj : X.N[j]? = some x) (hjl : Loc X.env.scope x) (hjf : X.fn x = true ∨ X.env.scope.names.lookup x = some .local)
    (hi : X.N[i]? = some n) (hln : X.env.kindOf n = some .local) (hk : X.N[k]? = some y) (hkl : Loc X.env.scope y) (hkf : X.fn y = true ∨ X.env.scope.names.lookup y = some .local) (hgS : Gl X "SwapError")
    (hb : ∀ (W : WX) (pn : List (Addr × Obj)) (xe : Value → Shared → Prop), Takes (X.tr pn xe) W → PE (X.tr pn xe) e (rdMX w W fm))
    (hsw : swapsWith e (some (.Name x px)) ps1.line X.env = pure false := by rfl) (hsw2 : swapsWith (.Name n pn2) (some (.Name y py)) ps2.line X.env = pure false := by rfl) (hdn : (n == ("__debug__" : Str)) = false := by decide) (hcd : (n == ("__classdict__" : Str)) = false := by decide) :
    PS X (.Try [.Assign [.Name x px] e ps1] [.ExceptHandler (some (.Name "SwapError" np)) (some n) [.Assign [.Name y py] (.Name n pn2) ps2] pos'] [] [] pos) (rdS w W (sTryM names j i k fm)) := by
  have hlocN : X.env.scope.names.lookup n = some .local := hln
  refine PSi (ps_try_keep (c := .ref (He.ga w.K "SwapError")) (tb := fun W D σ H => rdMX w W fm σ H fun v H1 => D.nx (σ.set j (some v)) H1) (ts := fun D σ H => tVar i σ H fun v H1 => D.nx (σ.set k (some v)) H1) hs hf hN hi hln ⟨hgS, by decide, .inl (by rw [hM]; exact S.top)⟩ hex
    (fun W pn xe tk po => pss_one (ps_set (X := X.tr pn xe) hN hj hjl (hb W pn xe tk) hsw hjf)) (fun a pn => pss_one (ps_set (X := X.suite a pn) hN hk hkl (pv i hi (.inl hlocN) hdn hcd) hsw2 hkf))) fun D σ H h => ?_
  obtain ⟨H0, B, env, G, g, x0, h⟩ := h
  refine ⟨H0, B, env, G, g, x0, ?_⟩
  unfold sTryM at h
  cases q : fm env with
  | ok r =>
    rw [q] at h
    obtain ⟨d, env1⟩ := r
    intro v H1 G1 g1 s1 x1 rv
    have h : PostS w W H0 B G (nxS (setS j (.d d) env1)) D := h
    cases e : setS j (.d d) env1 with
    | error er => rw [e, setS_tame er e] at h; exact (h []).elim
    | ok env' =>
      rw [e] at h
      exact h _ H1 G1 g1 s1 (Sim.store ok g1 x1 (Grow.refl g1.s) (r := .d d) rv (Fr.no rfl) e)
  | error er =>
    rw [q] at h
    cases er with
    | stuck => exact (h []).elim
    | exc z l =>
      cases l with
      | some l => exact (h []).elim
      | none =>
        dsimp only at h
        split at h
        · rename_i hz
          obtain ⟨hz1, hz2, hz3, hz4⟩ := hz
          obtain ⟨c1, c2, c3, c4⟩ := S.all hz1
          intro C H1 G1 hC g1
          rw [S.at_ z hz1] at hC
          cases hC
          refine ⟨by rw [hK]; exact c3, fun a ha _ => ?_⟩
          have hiσ : i < σ.length := by rw [← x0.len]; exact hz2
          refine ⟨.ref a, by simp [hiσ], ?_⟩
          have gl : Grow H1 G1 (upd H1 a (ExK (.ref (He.ga w.K z)) none a)) (upd G1 a (ExK (.ref (He.ga w.K z)) none a)) := Grow.lay g1.s ha
          have x1 := (x0.grow ok g1).grow ok gl
          have x2 := x1.forget (i := i) (o := some (.ref a))
          have x3 := Sim.set (i := k) (r := .e z none) (v := .ref a) x2 (by simpa using hz3) rfl ⟨a, rfl, by rw [S.exo]; exact ⟨_, none, S.at_ z hz1, upd_same, rfl⟩⟩ (fun _ f => f.elim) (fun _ _ _ _ _ _ _ f => f.elim)
          have x4 := x3.forget (i := i) (o := none)
          exact h _ _ _ ((g.trans g1).trans gl) (g1.g.trans gl.g) x4
        · exact (h []).elim
end
end Vs
end
section
namespace Vs
open PySem PySem.Spec PyProof.Rows L2
variable {w : Wd} {W : WX}
section
variable {X : Cx} {a b c e : Expr} {es : List Expr} {pos p : Pos} {fi fe : Sl → M R} {fs : Sl → M (List R)} {g : Sl → M Oc} {rest : List Stmt}
/-! ## y = x.f.pop() -/
def mFpop (x : Str) (i : Nat) (f : Str) : Sl → M (PD × Sl) := fun env => match fldS x i f env with
  | some xs => (match xs[xs.length - 1]? with
    | some d => .ok (d, putS i f xs.dropLast env)
    | none => .error .stuck)
  | none => .error .stuck
theorem xm_fpop {x f nm : Str} {p1 p2 apos cpos : Pos} {fl : List Str} (i : Nat) (ok : w.Ok) (hK : X.K = w.K) (cl : Kc w x fl) (hf : f ∈ fl) (hx : PE X (.Name nm p1) (tVar i)) (hb : attributeBase (.Name nm p1) f X.env (eval (.Name nm p1) X.env) = eval (.Name nm p1) X.env := by rfl)
    (hbase : attributeBase (.Attribute (.Name nm p1) f p2) "pop" X.env (eval (.Attribute (.Name nm p1) f p2) X.env) = eval (.Attribute (.Name nm p1) f p2) X.env := by rfl) (hline : (apos.endLine == cpos.line) = true := by rfl) :
    PE X (.Call (.Attribute (.Attribute (.Name nm p1) f p2) "pop" apos) [] [] cpos) (rdM w W (mFpop x i f)) := by
  refine PEi (pe_bm0 PySem.F.plainAttrs_list PySem.F.slot_list_pop PySem.F.type_list_pop mt_pop (pe_fld hx hb) hbase hline) fun σ H Q h => ?_
  obtain ⟨H0, B, env, G, g, s, h⟩ := h
  unfold mFpop at h
  split at h
  · rename_i xs e1
    split at h
    · rename_i d e5
      obtain ⟨p, C, dx, vf, q, hv, hp, cc, na, l1, k⟩ := s.fmut cl hf e1
      obtain ⟨vs, hq, hrv, k2⟩ := k H G (Same.refl H) s
      obtain ⟨u, hu, ru⟩ := hrv.get e5
      obtain ⟨sx, gx⟩ := k2 vs.dropLast xs.dropLast hrv.dropLast
      exact ⟨.ref p, hv, p, C, dx, vf, .ref q, rfl, hp, by rw [hK]; exact cc, by rw [hK]; exact na, l1, .inl ⟨rfl, vs, SqL.of hq⟩, q, vs, u, rfl, rfl, hq, by rw [hrv.length]; exact hu, h u _ G (gx B g) (Same.refl G) sx ru⟩
    · exact (h []).elim
  · exact (h []).elim
/-! ## an instance made -/
theorem mk_ok {m1 : Mo} {n : Nat} {x : Str} {C : Addr} {rs : List R} {fl : Fl} {vs : List V} {H1 G1 : Hp} {Q : VK} {E : XK} (ok : w.Ok) (hC : w.mg x = some (.ref C)) (s1 : Same G1 H1) (rr : RrL w H1 G1 vs rs) (hl : rs.length = n) (ho : nOwn rs = true) (hx : ∀ q, m1 q [] rs = .ok (.d .none, fl))
    (hQ : ∀ x0 H3 G3, Grow H1 G1 H3 G3 → Rr w H3 G3 (.ref x0) (.o (some x0) x fl) → (∀ a, foot H3 (.o (some x0) x fl) (.ref x0) a → H1 a = none) → Q (.ref x0) H3) :
    ∀ x0 dx, H1 x0 = none → H1 dx = none → dx ≠ x0 → spO w x n m1 (.ref x0 :: (vs ++ [])) (upd (upd H1 dx (.own x0)) x0 (.ins C dx [])) (fun v H2 => v = .non ∧ Q (.ref x0) H2) E := by
  intro x0 dx nx nd hne
  have s2 : Same G1 (upd (upd H1 dx (.own x0)) x0 (.ins C dx [])) := fun a o z => by
    rw [upd_ne (fun q => by rw [q, s1.free nx] at z; cases z), upd_ne (fun q => by rw [q, s1.free nd] at z; cases z)]
    exact s1 a o z
  have h12 : ∀ a o, H1 a = some o → (upd (upd H1 dx (.own x0)) x0 (.ins C dx [])) a = some o ∧ a ≠ x0 := fun a o z => by
    have q1 : a ≠ x0 := fun q => by rw [q, nx] at z; cases z
    have q2 : a ≠ dx := fun q => by rw [q, nd] at z; cases z
    exact ⟨by rw [upd_ne q1, upd_ne q2]; exact z, q1⟩
  have ft : ∀ a, foot (upd (upd H1 dx (.own x0)) x0 (.ins C dx [])) (.o none x []) (.ref x0) a → a = x0 := fun a fa => by
    rcases fa with fa | ⟨p9, C9, dx9, vf9, k9, e9, h9, m9⟩
    · cases fa; rfl
    · cases e9
      rw [upd_same] at h9
      cases h9
      cases m9
  generalize hH2 : upd (upd H1 dx (.own x0)) x0 (.ins C dx []) = H2 at s2 h12 ft
  have rr2 : RrL w H2 G1 vs rs := by
    have : ∀ {us : List V} {ss : List R}, RrL w H1 G1 us ss → (∀ r ∈ ss, r.own = false) → RrL w H2 G1 us ss := by
      intro us ss hrr
      induction hrr with
      | nil => intro _; exact .nil
      | cons r1 _ ih =>
        intro ho
        refine .cons (r1.keep ok (Same.refl G1) fun a o f _ => ?_) (ih fun r hr => ho r (List.mem_cons_of_mem _ hr))
        have := foot_own f
        rw [ho _ List.mem_cons_self] at this
        cases this
    exact this rr (nOwn_ok ho)
  rw [List.append_nil]
  refine ⟨by rw [List.length_cons, rr.length, hl], x0, vs, G1, [], rs, .d .none, fl, rfl, s2, ⟨x0, C, dx, [], rfl, (fun _ z => by cases z), hC, s1.free nx, by rw [← hH2]; exact upd_same, .nil⟩, rr2, nOwn_ok ho, hx x0, fun v H3 G3 gr3 ro3 rv3 fv3 hf3 => ?_⟩
  cases rv3
  refine ⟨rfl, ?_⟩
  have h13 : ∀ a o, H1 a = some o → H3 a = some o := fun a o z => gr3.h a o (by rw [hid_out (fun f => (h12 a o z).2 (ft a f))]; exact (h12 a o z).1)
  refine hQ x0 H3 G3 ⟨h13, gr3.g, gr3.s, fun a o f z1 z2 => gr3.a a o f z1 (by rw [hid_out (fun f => (h12 a o z2).2 (ft a f))]; exact (h12 a o z2).1)⟩ ro3.withP fun a fa => ?_
  rcases hf3 a fa with f | f
  · rw [ft a f]; exact nx
  · cases e : H1 a with
    | none => rfl
    | some o => rw [(h12 a o e).1] at f; cases f
/-- a slot takes the instance just made -/
theorem Sim.newO {H0 H1 G1 H3 G3 : Hp} {env : Sl} {σ : L2.St} {i : Nat} {q : Addr} {x : Str} {fl : Fl} (ok : w.Ok) (s : Sim w H0 env σ H1 G1) (h01 : Same H0 H1) (g3 : Grow H1 G1 H3 G3) (hi : i < env.length) (ro : Rr w H3 G3 (.ref q) (.o (some q) x fl))
    (hf : ∀ a, foot H3 (.o (some q) x fl) (.ref q) a → H1 a = none) : Sim w H0 (env.set i (some (.o (some q) x fl))) (σ.set i (some (.ref q))) H3 G3 := by
  refine Sim.set (s.grow ok g3) hi rfl ro (fun a f => h01.free (hf a f)) fun j r' v' a hj e1 s1 f1 f2 => ?_
  obtain ⟨_, u, b, c, _⟩ := s.at_ j r' e1
  rw [s1] at b
  cases b
  obtain ⟨_, o, ho, _⟩ := foot_has c (foot_same (fun p o _ h => g3.h p o h) c f2)
  rw [hf a f1] at ho
  cases ho
def Mk1 (i n : Nat) (x : Str) (m : Mo) (fs : Sl → M (List R)) (g : Sl → M Oc) (env : Sl) (d : PD) : Prop := ∃ rs fl, fs env = .ok rs ∧ rs.length = n ∧ nOwn rs = true ∧ (∀ q, m q [] rs = .ok (.d .none, fl)) ∧ i < env.length ∧ ∀ q, g (env.set i (some (.o (some q) x fl))) = .ok (.ret (.d d))
/-- y = C(..), and what follows, wherever the instance lies -/
noncomputable def sMk1 (i n : Nat) (x : Str) (m : Mo) (fs : Sl → M (List R)) (g : Sl → M Oc) : Sl → M Oc := fun env => @dite _ (∃ d, Mk1 i n x m fs g env d) (Classical.propDecidable _) (fun h => .ok (.ret (.d h.choose))) fun _ => .error .stuck
theorem sMk1_ok {i n : Nat} {x : Str} {m : Mo} {env : Sl} {d : PD} (h : Mk1 i n x m fs g env d) : sMk1 i n x m fs g env = .ok (.ret (.d d)) := by
  unfold sMk1
  have hh : ∃ d, Mk1 i n x m fs g env d := ⟨d, h⟩
  rw [dif_pos hh]
  obtain ⟨rs, fl, e1, _, _, hx, _, hg⟩ := hh.choose_spec
  obtain ⟨rs', fl', e1', _, _, hx', _, hg'⟩ := h
  rw [e1] at e1'
  cases e1'
  have e2 := (hx 0).symm.trans (hx' 0)
  cases e2
  have e3 := (hg 0).symm.trans (hg' 0)
  generalize hh.choose = d' at e3
  cases e3
  rfl
theorem xss_mk1 {i n k : Nat} {y x : Str} {m : Mo} {px pc p2 : Pos} (ok : w.Ok) (hK : X.K = w.K) (hM : X.mg = w.mg) (D1 : Mkr X.prog X.w w X.base x k n m) (hr : Room (k + 1) X.A) (hN : X.N.Nodup) (hi : X.N[i]? = some y) (hy : Loc X.env.scope y) (hfy : X.fn y = true ∨ X.env.scope.names.lookup y = some .local)
    (hg : Gl X x) (ha : PA X (e :: es) (rdA w W fs)) (hrest : PSs X rest (rdS w W g))
    (hdb : (x == ("__debug__" : Str)) = false := by decide) (he : starEach (e :: es) X.env = (false, eval e X.env) :: starEach es X.env := by rfl) (hpl : (backTo p2 (starEach es X.env)).any (·.1) = false := by rfl)
    (hs : swapsWith (.Call (.Name x pc) (e :: es) [] p2) (some (.Name y px)) pos.line X.env = pure false := by rfl) (hcx : ∀ CX', CX' = L2.CX X.prog X.w → Passes CX' X E0 := by rintro _ rfl; exact passL) :
    PSs X (.Assign [.Name y px] (.Call (.Name x pc) (e :: es) [] p2) pos :: rest) (rdS w W (sMk1 i n x m fs g)) := by
  obtain ⟨C, f1, fd1, ps1, hC, cc, hmk, F1, hb1⟩ := D1.ex
  have hCm := hC
  rw [← hM] at hCm
  rw [← hK, ← hM] at F1
  rw [← hK] at cc hmk hb1
  refine PSsi (pss_cons (ps_set hN hi hy (pe_make (E := E0) hmk F1 hr hg hCm hb1 .nil (hcx _ rfl) ha hdb he hpl) hs hfy) hrest) fun D σ H h => ?_
  obtain ⟨H0, B, env, G, gr, s, h⟩ := h
  refine ⟨H0, B, env, G, gr, s, ?_⟩
  unfold sMk1 at h
  by_cases hh : ∃ d, Mk1 i n x m fs g env d
  · rw [dif_pos hh] at h
    obtain ⟨rs, fl, e3, hl, ho, hx, hi', hgg⟩ := hh.choose_spec
    generalize hh.choose = d at h hgg
    rw [e3]
    intro vs H1 G1 g1 rr fr
    refine mk_ok (Q := fun x H1 => rdS w W g D (σ.set i (some x)) H1) ok hC g1.s rr hl ho hx fun q H3 G3 g3 ro hf => ⟨H0, B, env.set i (some (.o (some q) x fl)), G3, (gr.trans g1).trans g3, Sim.newO ok (s.grow ok g1) (gr.trans g1).h g3 hi' ro hf, ?_⟩
    rw [hgg q]
    exact h
  · rw [dif_neg hh] at h
    exact (h []).elim
/-! ## two instances made within a list; they lie in slots of no name -/
def rfP (ds : List PD) (p : Addr) (G : Hp) : Prop := ∃ qs : List Addr, ds = qs.map (fun q => PyData.int (q : Nat)) ∧ G p = some (.lst (qs.map V.ref))
theorem rfP_up (ds : List PD) (p : Addr) (H H' : Hp) (s : Same H H') (h : rfP ds p H) : rfP ds p H' := by
  obtain ⟨qs, e, h⟩ := h
  exact ⟨qs, e, s _ _ h⟩
abbrev wY (K : PySem.W.Frag) (mg : Str → Option Value) : Wd := { K := K, mg := mg, exo := exoK mg, seto := rfP }
theorem wY_ok {K : PySem.W.Frag} {mg : Str → Option Value} : (wY K mg).Ok := ⟨exoK_up, rfP_up⟩
theorem Xs.ofY {K : PySem.W.Frag} {h : Heap} {mg : Str → Option Value} {names : List Str} (X : K.In h) (G : h.Ns mainGlobals mg) (e : exB2 names K = true) : Xs (wY K mg) names :=
  have S := Xs.of X G e
  ⟨S.at_, S.top, S.ok, S.exo⟩
theorem ghost {X : Cx} {pins : List (Addr × Obj)} {σ : L2.St} {H : Hp} {s : Shared} (I : Inv X pins σ H s) {i : Nat} {x : Str} (hi : X.N[i]? = some x) (hx : X.env.scope.names.lookup x = none) (v : V) : Inv X pins (σ.set i (some v)) H s := by
  obtain ⟨m, hn, hl⟩ := I.loc
  refine { I with loc := ⟨m, hn, fun j y u hj hu hv => ?_⟩, len := by rw [List.length_set]; exact I.len }
  by_cases hji : j = i
  · subst hji
    rw [hi] at hj
    cases hj
    exfalso
    rcases hv with z | z | z <;> rw [hx] at z <;> cases z
  · rw [List.getElem?_set_ne (Ne.symm hji)] at hu
    exact hl j y u hj hu hv
/-- which slot holds the instance that the list has at a place -/
def ghAt (x : Str) (t L : Nat) (env : Sl) (r : R) : Option (Nat × Addr × Fl) := match env[t]?, r with
  | some (some (.z ds)), .d (.int i) => if 0 ≤ i then (match ds[i.toNat]?, env[L + i.toNat]? with
    | some (.int q), some (some (.o (some q') y fl)) => if q = (q' : Nat) ∧ y = x then some (i.toNat, q', fl) else none
    | _, _ => none) else none
  | _, _ => none
theorem ghAt_ok {H0 : Hp} {env : Sl} {σ : L2.St} {H G : Hp} {x : Str} {t L k : Nat} {r : R} {q : Addr} {fl : Fl} (hs : w.seto = rfP) (s : Sim w H0 env σ H G) (h : ghAt x t L env r = some (k, q, fl)) :
    ∃ p us, r = .d (.int k) ∧ σ[t]? = some (some (.ref p)) ∧ G p = some (.lst us) ∧ us[k]? = some (.ref q) ∧ env[L + k]? = some (some (.o (some q) x fl)) ∧ σ[L + k]? = some (some (.ref q)) := by
  unfold ghAt at h
  split at h
  · rename_i ds i e1
    split at h
    · rename_i h0
      split at h
      · rename_i q1 q' y f2 e2 e3
        split at h
        · rename_i hc
          obtain ⟨rfl, rfl⟩ := hc
          cases h
          obtain ⟨_, v, hv, ⟨p, rfl, z⟩, _⟩ := s.at_ t _ e1
          rw [hs] at z
          obtain ⟨qs, rfl, hp⟩ := z
          rw [List.getElem?_map] at e2
          cases e4 : qs[i.toNat]? with
          | none => rw [e4] at e2; cases e2
          | some q2 =>
            rw [e4] at e2
            have e5 : PyData.int (q2 : Nat) = PyData.int (q : Nat) := Option.some.inj e2
            have e6 : q2 = q := by injection e5 with e5; exact Int.ofNat.inj e5
            subst e6
            obtain ⟨_, v3, hv3, ro, _⟩ := s.at_ _ _ e3
            have := ro.isP
            subst this
            refine ⟨p, qs.map V.ref, by rw [Int.toNat_of_nonneg h0], hv, hp, by rw [List.getElem?_map, e4]; rfl, e3, hv3⟩
        · cases h
      · cases h
    · cases h
  · cases h
end
end Vs
end
section
namespace Vs
open PySem PySem.Spec PyProof.Rows L2
variable {w : Wd} {W : WX}
/-! ## a def that is handed an instance first -/
structure DfnO (P : Program) (wd : World) (w : Wd) (base : Heap) (f0 x : Str) (k n : Nat) (m : Mo) : Prop where
  ex : ∃ f fd ps, FnOk P wd w.K w.mg base (L2.CX P wd) k f fd ps (spO w x n m) ∧ w.mg f0 = some (.ref f) ∧ PySem.W.keepIn w.K (.ref f) = true ∧ Binds w.K fd ps []
theorem DfnO.mono {P : Program} {wd : World} {base : Heap} {f0 x : Str} {j k n : Nat} {m : Mo} (D : DfnO P wd w base f0 x j n m) (h : j ≤ k) : DfnO P wd w base f0 x k n m := by
  obtain ⟨f, fd, ps, F, a, b, c⟩ := D.ex
  exact ⟨f, fd, ps, F.mono h, a, b, c⟩
section
variable {X : Cx} {a b c e : Expr} {es : List Expr} {pos p : Pos} {fi fe : Sl → M R} {fs : Sl → M (List R)} {g : Sl → M Oc} {rest : List Stmt}
def mCallG (x : Str) (t L n : Nat) (m : Mo) (fi : Sl → M R) (fs : Sl → M (List R)) : Sl → M (PD × Sl) := fun env => (quiet (fi env)).bind fun r => match ghAt x t L env r with
  | some (k, q, fl) => (fs env).bind fun rs => if rs.length = n ∧ nOwn rs = true then (quiet (m q fl rs)).bind fun o => (dOf o.1).bind fun d => .ok (d, env.set (L + k) (some (.o (some q) x o.2))) else .error .stuck
  | none => .error .stuck
theorem rd_callG {x : Str} {t L n : Nat} {m : Mo} (ok : w.Ok) (hs : w.seto = rfP) (σ : L2.St) (H : Hp) (Q : VK) (h : rdM w W (mCallG x t L n m fi fs) σ H Q) : tCall (spO w x n m) [] E0 (tCons (tOp (rIxL w.K) (tVar t) (rdE w W fi)) (rdA w W fs)) σ H Q := by
  obtain ⟨H0, B, env, G, g, s, h⟩ := h
  unfold mCallG at h
  cases e1 : quiet (fi env) with
  | error er => rw [e1, quiet_err e1] at h; exact (h []).elim
  | ok r =>
    rw [e1] at h
    replace h : PostM' w W σ H0 B G (match ghAt x t L env r with
      | some (k, q, fl) => (fs env).bind fun rs => if rs.length = n ∧ nOwn rs = true then (quiet (m q fl rs)).bind fun o => (dOf o.1).bind fun d => .ok (d, env.set (L + k) (some (.o (some q) x o.2))) else .error .stuck
      | none => .error .stuck) Q := h
    split at h
    · rename_i k q fl e2
      obtain ⟨p, us, rfl, hv, hp, hu, he, hvq⟩ := ghAt_ok hs s e2
      refine ⟨.ref p, hv, H0, B, env, G, g, s, ?_⟩
      rw [quiet_ok2 e1]
      intro v H1 G1 g1 rr fr
      cases rr
      refine ⟨p, us, k, .ref q, rfl, rfl, SqL.of (g1.s _ _ (g1.g _ _ hp)), atI_nat hu, H0, B, env, G1, g.trans g1, s.grow ok g1, ?_⟩
      cases e3 : fs env with
      | error er => rw [e3] at h; exact PostX.up (g.trans g1) h
      | ok rs =>
        rw [e3] at h
        intro vs H2 G2 g2 rr2 fr2
        have s2 := (s.grow ok g1).grow ok g2
        have gA := (g.trans g1).trans g2
        replace h : PostM' w W σ H0 B G (if rs.length = n ∧ nOwn rs = true then (quiet (m q fl rs)).bind fun o => (dOf o.1).bind fun d => .ok (d, env.set (L + k) (some (.o (some q) x o.2))) else .error .stuck) Q := h
        split at h
        · rename_i hc
          obtain ⟨hl, ho⟩ := hc
          cases e4 : quiet (m q fl rs) with
          | error er => rw [e4, quiet_err e4] at h; exact (h []).elim
          | ok o =>
            rw [e4] at h
            replace h : PostM' w W σ H0 B G ((dOf o.1).bind fun d => .ok (d, env.set (L + k) (some (.o (some q) x o.2)))) Q := h
            cases e5 : dOf o.1 with
            | error er =>
              rw [e5] at h
              have : er = .stuck := by unfold dOf at e5; split at e5 <;> cases e5; rfl
              rw [this] at h
              exact (h []).elim
            | ok d =>
              rw [e5] at h
              obtain ⟨_, v1, hv1, ro1, _⟩ := s2.at_ _ _ he
              rw [hvq] at hv1
              cases hv1
              show spO w x n m (.ref q :: vs ++ []) H2 Q E0
              rw [List.append_nil]
              refine ⟨by rw [List.length_cons, rr2.length, hl], q, vs, G2, fl, rs, o.1, o.2, rfl, g2.s, ro1.noP, rr2, nOwn_ok ho, quiet_ok2 e4, fun v H' G' gr ro' rv fv hf => ?_⟩
              have hd := dOf_ok e5
              rw [hd] at rv
              obtain ⟨sx, gx⟩ := s2.meth (r' := .o (some q) x o.2) ok he hvq gr rfl ro'.withP hf B gA
              exact h v H' G' gx (g1.g.trans (g2.g.trans gr.g)) sx rv
        · exact (h []).elim
    · exact (h []).elim
theorem xm_callG {f0 x nm : Str} {i1 : Expr} {p1 p3 : Pos} {k n t : Nat} {m : Mo} (L : Nat) (ok : w.Ok) (hs : w.seto = rfP) (hK : X.K = w.K) (hM : X.mg = w.mg) (D : DfnO X.prog X.w w X.base f0 x k n m) (hr : Room k X.A) (hg : Gl X f0) (hx : PE X (.Name nm p1) (tVar t)) (hi : PE X i1 (rdE w W fi)) (hpi : PlainIx i1) (ha : PA X es (rdA w W fs))
    (hdb : (f0 == ("__debug__" : Str)) = false := by decide) (he : starEach (.Subscript (.Name nm p1) i1 p3 :: es) X.env = (false, eval (.Subscript (.Name nm p1) i1 p3) X.env) :: starEach es X.env := by rfl) (hpl : (backTo pos (starEach es X.env)).any (·.1) = false := by rfl)
    (hcx : ∀ CX', CX' = L2.CX X.prog X.w → Passes CX' X E0 := by rintro _ rfl; exact passL) :
    PE X (.Call (.Name f0 p) (.Subscript (.Name nm p1) i1 p3 :: es) [] pos) (rdM w W (mCallG x t L n m fi fs)) := by
  obtain ⟨f, fd, ps, F, hm, hk, hb⟩ := D.ex
  rw [← hK, ← hM] at F
  rw [← hM] at hm
  rw [← hK] at hk hb
  refine PEi (pe_call (E := E0) F hr hg hm hk hb .nil (hcx _ rfl) (pa_cons (pe_ix ix_list hx hi hpi) ha he) hdb he hpl) fun σ H Q h => ?_
  rw [hK]
  exact rd_callG ok hs σ H Q h
/-! ### the same, the instance only read -/
def boR : R → M R
  | .d (.bool b) => .ok (.d (.bool b))
  | _ => .error .stuck
def eCallG (x : Str) (t L n : Nat) (m : List R → M R) (fi : Sl → M R) (fs : Sl → M (List R)) : Sl → M R := fun env => (quiet (fi env)).bind fun r => match ghAt x t L env r with
  | some (_, _, fl) => (fs env).bind fun rs => if rs.length = n ∧ nOwn rs = true then (quiet (m (.io x fl :: rs))).bind boR else .error .stuck
  | none => .error .stuck
theorem rd_callGR {x : Str} {t L n : Nat} {m : List R → M R} (ok : w.Ok) (hs : w.seto = rfP) (σ : L2.St) (H : Hp) (Q : VK) (h : rdE w W (eCallG x t L n m fi fs) σ H Q) : tCall (spM w (n + 1) m) [] E0 (tCons (tOp (rIxL w.K) (tVar t) (rdE w W fi)) (rdA w W fs)) σ H Q := by
  obtain ⟨H0, B, env, G, g, s, h⟩ := h
  unfold eCallG at h
  cases e1 : quiet (fi env) with
  | error er => rw [e1, quiet_err e1] at h; exact h.elim
  | ok r =>
    rw [e1] at h
    replace h : PostE w W σ H G (match ghAt x t L env r with
      | some (_, _, fl) => (fs env).bind fun rs => if rs.length = n ∧ nOwn rs = true then (quiet (m (.io x fl :: rs))).bind boR else .error .stuck
      | none => .error .stuck) Q := h
    split at h
    · rename_i k q fl e2
      obtain ⟨p, us, rfl, hv, hp, hu, he, hvq⟩ := ghAt_ok hs s e2
      refine ⟨.ref p, hv, H0, B, env, G, g, s, ?_⟩
      rw [quiet_ok2 e1]
      intro v H1 G1 g1 rr fr
      cases rr
      refine ⟨p, us, k, .ref q, rfl, rfl, SqL.of (g1.s _ _ (g1.g _ _ hp)), atI_nat hu, H0, B, env, G1, g.trans g1, s.grow ok g1, ?_⟩
      cases e3 : fs env with
      | error er => rw [e3] at h; exact PostX.grow g1 (PostE.err.mp h)
      | ok rs =>
        rw [e3] at h
        intro vs H2 G2 g2 rr2 fr2
        have s2 := (s.grow ok g1).grow ok g2
        have gA := (g.trans g1).trans g2
        replace h : PostE w W σ H G (if rs.length = n ∧ nOwn rs = true then (quiet (m (.io x fl :: rs))).bind boR else .error .stuck) Q := h
        split at h
        · rename_i hc
          obtain ⟨hl, ho⟩ := hc
          cases e4 : quiet (m (.io x fl :: rs)) with
          | error er => rw [e4, quiet_err e4] at h; exact h.elim
          | ok o =>
            rw [e4] at h
            replace h : PostE w W σ H G (boR o) Q := h
            unfold boR at h
            split at h
            · rename_i bb
              obtain ⟨_, v1, hv1, ro1, _⟩ := s2.at_ _ _ he
              rw [hvq] at hv1
              cases hv1
              obtain ⟨p2, C2, dx2, vf2, e9, _, m2, n2, hp2, fr2⟩ := ro1
              cases e9
              have inL : ∀ f u, (f, u) ∈ vf2 → u ∈ (V.ref q :: vf2.map (·.2)) := fun f u mm => List.mem_cons_of_mem _ (List.mem_map.mpr ⟨(f, u), mm, rfl⟩)
              show spM w (n + 1) m (.ref q :: vs ++ []) H2 Q E0
              rw [List.append_nil]
              refine ⟨by rw [List.length_cons, rr2.length, hl], addTo G2 H2 (V.ref q :: vf2.map (·.2)), .io x fl :: rs, addTo_h g2.s, .cons ⟨q, C2, dx2, vf2, rfl, m2, addTo_in List.mem_cons_self n2 hp2, fr2.toG g2.s inL⟩ (rr2.same ok addTo_g (nOwn_ok ho)), fun r hr => ?_, ?_⟩
              · rcases List.mem_cons.mp hr with rfl | hr
                · rfl
                · exact nOwn_ok ho r hr
              · rw [quiet_ok2 e4]
                intro v H3 B3 b3 rv fv
                cases rv
                exact h (.bl bb) H3 _ ((g1.trans g2).trans (Grow.drop (Grow.refl g2.s) b3)) (.bl bb) (Fr.no rfl)
            · exact h.elim
        · exact h.elim
    · exact h.elim
theorem xe_callG {f0 x nm : Str} {i1 : Expr} {p1 p3 : Pos} {k n t : Nat} {m : List R → M R} (L : Nat) (ok : w.Ok) (hs : w.seto = rfP) (hK : X.K = w.K) (hM : X.mg = w.mg) (D : Dfn X.prog X.w w X.base f0 k (n + 1) m) (hr : Room k X.A) (hg : Gl X f0) (hx : PE X (.Name nm p1) (tVar t)) (hi : PE X i1 (rdE w W fi)) (hpi : PlainIx i1) (ha : PA X es (rdA w W fs))
    (hdb : (f0 == ("__debug__" : Str)) = false := by decide) (he : starEach (.Subscript (.Name nm p1) i1 p3 :: es) X.env = (false, eval (.Subscript (.Name nm p1) i1 p3) X.env) :: starEach es X.env := by rfl) (hpl : (backTo pos (starEach es X.env)).any (·.1) = false := by rfl)
    (hcx : ∀ CX', CX' = L2.CX X.prog X.w → Passes CX' X E0 := by rintro _ rfl; exact passL) :
    PE X (.Call (.Name f0 p) (.Subscript (.Name nm p1) i1 p3 :: es) [] pos) (rdE w W (eCallG x t L n m fi fs)) := by
  obtain ⟨f, fd, ps, F, hm, hk, hb⟩ := D.ex
  rw [← hK, ← hM] at F
  rw [← hM] at hm
  rw [← hK] at hk hb
  refine PEi (pe_call (E := E0) F hr hg hm hk hb .nil (hcx _ rfl) (pa_cons (pe_ix ix_list hx hi hpi) ha he) hdb he hpl) fun σ H Q h => ?_
  rw [hK]
  exact rd_callGR ok hs σ H Q h
/-! ## y = [C(..) for a in b], b of two -/
def One (n : Nat) (own : List Nat) (fG : PD → Sl → M Sl) (m : Mo) (fs : Sl → M (List R)) (env : Sl) (d : PD) (fl : Fl) : Prop := ∃ e1 rs, fG d (wipeS env own) = .ok e1 ∧ fs e1 = .ok rs ∧ rs.length = n ∧ nOwn rs = true ∧ ∀ q, m q [] rs = .ok (.d .none, fl)
def Mk2 (t L n : Nat) (x : Str) (m : Mo) (fi : Sl → M (List PD)) (own : List Nat) (fG : PD → Sl → M Sl) (fs : Sl → M (List R)) (g : Sl → M Oc) (env : Sl) (d : PD) : Prop :=
  ∃ d0 d1 fl0 fl1, fi env = .ok [d0, d1] ∧ One n own fG m fs env d0 fl0 ∧ One n own fG m fs env d1 fl1 ∧ t < env.length ∧ L + 1 < env.length ∧
    ∀ q0 q1 : Addr, g (((env.set t (some (.z [.int (q0 : Nat), .int (q1 : Nat)]))).set L (some (.o (some q0) x fl0))).set (L + 1) (some (.o (some q1) x fl1))) = .ok (.ret (.d d))
noncomputable def sMk2 (t L n : Nat) (x : Str) (m : Mo) (fi : Sl → M (List PD)) (own : List Nat) (fG : PD → Sl → M Sl) (fs : Sl → M (List R)) (g : Sl → M Oc) : Sl → M Oc := fun env => @dite _ (∃ d, Mk2 t L n x m fi own fG fs g env d) (Classical.propDecidable _) (fun h => .ok (.ret (.d h.choose))) fun _ => .error .stuck
theorem One.uniq {n : Nat} {own : List Nat} {fG : PD → Sl → M Sl} {m : Mo} {env : Sl} {d : PD} {fl fl' : Fl} (h : One n own fG m fs env d fl) (h' : One n own fG m fs env d fl') : fl = fl' := by
  obtain ⟨e1, rs, a, b, _, _, hx⟩ := h
  obtain ⟨e1', rs', a', b', _, _, hx'⟩ := h'
  rw [a] at a'
  cases a'
  rw [b] at b'
  cases b'
  have e2 := (hx 0).symm.trans (hx' 0)
  cases e2
  rfl
theorem sMk2_ok {t L n : Nat} {x : Str} {m : Mo} {fi : Sl → M (List PD)} {own : List Nat} {fG : PD → Sl → M Sl} {env : Sl} {d : PD} (h : Mk2 t L n x m fi own fG fs g env d) : sMk2 t L n x m fi own fG fs g env = .ok (.ret (.d d)) := by
  unfold sMk2
  have hh : ∃ d, Mk2 t L n x m fi own fG fs g env d := ⟨d, h⟩
  rw [dif_pos hh]
  obtain ⟨d0, d1, fl0, fl1, e1, o0, o1, _, _, hg⟩ := hh.choose_spec
  obtain ⟨d0', d1', fl0', fl1', e1', o0', o1', _, _, hg'⟩ := h
  rw [e1] at e1'
  cases e1'
  have := o0.uniq o0'
  subst this
  have := o1.uniq o1'
  subst this
  have e3 := (hg 0 0).symm.trans (hg' 0 0)
  generalize hh.choose = d' at e3
  cases e3
  rfl
/-- an instance that the list at D has -/
def OI (w : Wd) (x : Str) (H1 : Hp) (D : Addr) (H G : Hp) (q : Addr) (fl : Fl) : Prop := Rr w H G (.ref q) (.o (some q) x fl) ∧ ∀ a, foot H (.o (some q) x fl) (.ref q) a → H1 a = none ∧ a ≠ D
theorem OI.grow {x : Str} {H1 : Hp} {D : Addr} {H G H' G' : Hp} {q : Addr} {fl : Fl} (ok : w.Ok) (h : OI w x H1 D H G q fl) (g : Grow H G H' G') : OI w x H1 D H' G' q fl :=
  ⟨h.1.mono ok g, fun a f => h.2 a (foot_same (fun p o _ z => g.h p o z) h.1 f)⟩
theorem OI.upd {x : Str} {H1 : Hp} {D : Addr} {H G : Hp} {q : Addr} {fl : Fl} {o : HO} (h : OI w x H1 D H G q fl) (n : G D = none) : OI w x H1 D (upd H D o) G q fl :=
  have off : ∀ a, foot H (.o (some q) x fl) (.ref q) a → a ≠ D := fun a f => (h.2 a f).2
  ⟨h.1.other n off, fun a f => h.2 a (foot_upd off h.1 f)⟩
/-- one turn -/
theorem turn_mk {n i : Nat} {x : Str} {C : Addr} {m : Mo} {own is : List Nat} {fG : PD → Sl → M Sl} {xs : List PD} {di : PD} {fl : Fl} {J : It} {H0 B H G H1 G1 H' G' : Hp} {env : Sl} {σ : L2.St} {D : Addr} {acc : List V} {Nx : Hp → Prop}
    (ok : w.Ok) (hw : ∀ i ∈ is, i ∈ own) (hC : w.mg x = some (.ref C)) (g : Grow H0 B H G) (s : Sim w H0 env σ H G) (g1 : Grow H G H1 G1) (wk : Wk w J G1 xs) (hi : xs[i]? = some di) (o1 : One n own fG m fs env di fl) (gA : Grow H1 G1 H' G') (hD : H' D = some (.lst acc)) (hz : acc.length < 2)
    (hP : ∀ q H4 G4, Grow H' G' H4 G4 → Rr w H4 G4 (.ref q) (.o (some q) x fl) → (∀ a, foot H4 (.o (some q) x fl) (.ref q) a → H' a = none) → Nx (upd H4 D (.lst (acc ++ [.ref q])))) :
    ∀ v H2, J.yld i H' v H2 → rdG w is fG v (L2.wipe σ own) H2 fun σ2 H2 => L2.wipe σ2 own = L2.wipe σ own ∧ rdT w W0 tTrue σ2 H2 fun b H3 =>
      if b = true then tMake C (spO w x n m) [] E0 (rdA w W0 fs) σ2 H3 fun y H4 => ∃ acc, H4 D = some (.lst acc) ∧ acc.length < sizeLine ∧ Nx (upd H4 D (.lst (acc ++ [y]))) else Nx H3 := by
  intro v H2 y
  have hlt : i < xs.length := (List.getElem?_eq_some_iff.mp hi).1
  obtain ⟨G2, xi, hxi, rxi, g2⟩ := wk.yld i H' G' v H2 gA.g gA.s hlt y
  rw [hi] at hxi
  cases hxi
  obtain ⟨e1, rs, q1, q2, hl, ho, hx⟩ := o1
  have gA2 := gA.trans g2
  have g02 : Grow H0 B H2 G2 := (g.trans g1).trans gA2
  have x2 : Sim w H0 (wipeS env own) (L2.wipe σ own) H2 G2 := ((s.grow ok g1).grow ok gA2).wipe own
  refine ⟨H0, B, wipeS env own, G2, di, g02, x2, rxi, ?_⟩
  rw [q1]
  refine fun σ2 x3 wq => ⟨(wq own hw).trans ?_, ⟨H0, B, e1, G2, g02, x3, ?_⟩⟩
  · have aux : ∀ us vs : List Nat, (∀ u ∈ us, u ∈ vs) → L2.wipe (L2.wipe σ us) vs = L2.wipe σ vs := by
      intro us
      induction us with
      | nil => intro vs _; rfl
      | cons u us ih =>
        intro vs hv
        show L2.wipe ((L2.wipe σ us).set u none) vs = _
        rw [wipe_set (hv u List.mem_cons_self)]
        exact ih vs fun z hz => hv z (List.mem_cons_of_mem _ hz)
    exact aux own own fun _ h => h
  · intro H3 G3 g3
    rw [if_pos rfl]
    refine ⟨H0, B, e1, G3, g02.trans g3, x3.grow ok g3, ?_⟩
    rw [q2]
    intro vs Hm Gm gm rr fr
    refine mk_ok (Q := fun y H4 => ∃ acc, H4 D = some (.lst acc) ∧ acc.length < sizeLine ∧ Nx (upd H4 D (.lst (acc ++ [y])))) ok hC gm.s rr hl ho hx fun q H4 G4 g4 ro hf => ?_
    have gB := (g2.trans g3).trans gm
    have gT := gB.trans g4
    exact ⟨acc, gT.h _ _ hD, Nat.lt_trans hz (by decide), hP q H4 G4 gT ro fun a fa => gB.h.free (hf a fa)⟩
theorem pss_ghost {L : Nat} {u0 u1 : Str} (h0 : X.N[L]? = some u0) (h1 : X.N[L + 1]? = some u1) (n0 : X.env.scope.names.lookup u0 = none) (n1 : X.env.scope.names.lookup u1 = none) {t : TS} (h : PSs X rest t) : PSs X rest (fun D σ H => ∃ v0 v1, t D ((σ.set L (some v0)).set (L + 1) (some v1)) H) :=
  ⟨fun pins s σ H D I ⟨v0, v1, q⟩ => h.run pins s _ H D (ghost (ghost I h0 n0 v0) h1 n1 v1) q⟩
theorem xss_mk2 {t n k : Nat} {y x u0 u1 : Str} {m : Mo} {py pc p2 : Pos} {tg iter : Expr} {scope : Scope} {own : List (Str × Nat)} {spos : Pos} {fl : Sl → M (List PD)} {is : List Nat} {fG : PD → Sl → M Sl} (L : Nat) (ok : w.Ok) (hsr : w.seto = rfP) (hK : X.K = w.K) (hM : X.mg = w.mg) (D1 : Mkr X.prog X.w w X.base x k n m) (hr : Room (k + 1) X.A)
    (htL : t < L) (h0 : X.N[L]? = some u0) (h1 : X.N[L + 1]? = some u1) (n0 : X.env.scope.names.lookup u0 = none) (n1 : X.env.scope.names.lookup u1 = none)
    (hc : X.calm = true) (hN : X.N.Nodup) (hy : X.N[t]? = some y) (hyl : X.env.scope.names.lookup y = some .local)
    (hsw : swapsWith (.ListComp (.Call (.Name x pc) (e :: es) [] p2) [⟨tg, iter, [], 0⟩] scope pos) (some (.Name y py)) spos.line X.env = pure true) (hw : ∀ i ∈ is, i ∈ own.map (·.2)) (hi : PI X tg iter (rdI w W fl)) (bok : BlkOk X.N X.env.scope scope own)
    (hgG : ∀ (s : Shared) (H : Hp) (C : Addr) (cl : List (Str × Addr)) (fp : List Addr), PG (X.blk s H scope (compEnvC scope cl C X.env) fp) tg (rdG w is fG))
    (hgl : ∀ (s : Shared) (H : Hp) (C : Addr) (cl : List (Str × Addr)) (fp : List Addr), Gl (X.blk s H scope (compEnvC scope cl C X.env) fp) x) (ha : ∀ (s : Shared) (H : Hp) (C : Addr) (cl : List (Str × Addr)) (fp : List Addr), PA (X.blk s H scope (compEnvC scope cl C X.env) fp) (e :: es) (rdA w W0 fs))
    (hrest : PSs X rest (rdS w W g))
    (hdb : (x == ("__debug__" : Str)) = false := by decide) (he : ∀ (s : Shared) (H : Hp) (C : Addr) (cl : List (Str × Addr)) (fp : List Addr), starEach (e :: es) (X.blk s H scope (compEnvC scope cl C X.env) fp).env = (false, eval e (X.blk s H scope (compEnvC scope cl C X.env) fp).env) :: starEach es (X.blk s H scope (compEnvC scope cl C X.env) fp).env := by intros; rfl)
    (hpl : ∀ (s : Shared) (H : Hp) (C : Addr) (cl : List (Str × Addr)) (fp : List Addr), (backTo p2 (starEach es (X.blk s H scope (compEnvC scope cl C X.env) fp).env)).any (·.1) = false := by intros; rfl)
    (hs : ∀ x, foldedSetIterable iter X.env x = pure x := by intro _; rfl) :
    PSs X (.Assign [.Name y py] (.ListComp (.Call (.Name x pc) (e :: es) [] p2) [⟨tg, iter, [], 0⟩] scope pos) spos :: rest) (rdS w W (sMk2 t L n x m fl (own.map (·.2)) fG fs g)) := by
  obtain ⟨C, f1, fd1, ps1, hC, cc, hmk, F1, hb1⟩ := D1.ex
  have hCm := hC
  rw [← hM] at hCm
  rw [← hK, ← hM] at F1
  rw [← hK] at cc hmk hb1
  refine PSsi (pss_cons (ps_setLc hc hN hy hyl hsw hi bok hgG (fun _ _ _ _ _ => xts_nil (w := w) (W := W0)) (fun s H C cl fp => pe_make (X := X.blk s H scope (compEnvC scope cl C X.env) fp) (E := E0) hmk F1 hr (hgl s H C cl fp) hCm hb1 .nil passL (ha s H C cl fp) hdb (he s H C cl fp) (hpl s H C cl fp)) hs) (pss_ghost h0 h1 n0 n1 hrest)) fun D σ H h => ?_
  obtain ⟨H0, B, env, G, gr, s, h⟩ := h
  refine ⟨H0, B, env, G, gr, s, ?_⟩
  unfold sMk2 at h
  by_cases hh : ∃ d, Mk2 t L n x m fl (own.map (·.2)) fG fs g env d
  · rw [dif_pos hh] at h
    obtain ⟨d0, d1, fl0, fl1, efi, o0, o1, ht, hL, hgg⟩ := hh.choose_spec
    generalize hh.choose = d at h hgg
    rw [efi]
    intro J H1 G1 g1 wk D9 hD
    refine ⟨fun i m' H' => m' = 2 - i ∧ ((i = 0 ∧ ∃ G', Grow H1 G1 H' G' ∧ H' D9 = some (.lst []) ∧ G' D9 = none) ∨
        (i = 1 ∧ ∃ G' q0, Grow H1 G1 H' G' ∧ H' D9 = some (.lst [.ref q0]) ∧ G' D9 = none ∧ OI w x H1 D9 H' G' q0 fl0) ∨
        (i = 2 ∧ ∃ G' q0 q1, Grow H1 G1 H' G' ∧ H' D9 = some (.lst [.ref q0, .ref q1]) ∧ G' D9 = none ∧ OI w x H1 D9 H' G' q0 fl0 ∧ OI w x H1 D9 H' G' q1 fl1 ∧ ∀ a, foot H' (.o (some q0) x fl0) (.ref q0) a → ¬ foot H' (.o (some q1) x fl1) (.ref q1) a)),
      ⟨2, rfl, .inl ⟨rfl, G1, Grow.own g1.s hD, upd_same, g1.s.free hD⟩⟩, ?_⟩
    -- a list's object written anew
    have wr : ∀ {H' G' : Hp} {o : HO}, Grow H1 G1 H' G' → G' D9 = none → Grow H1 G1 (upd H' D9 o) G' := fun {H' G' o} gA nD =>
      ⟨fun a o' q => by rw [upd_ne (ne_of_none q hD)]; exact gA.h a o' q, gA.g, fun a o' q => by rw [upd_ne (ne_of_none q nD)]; exact gA.s a o' q, gA.a⟩
    rintro i m' H' ⟨rfl, st⟩
    rcases st with ⟨rfl, G', gA, hD', nD⟩ | ⟨rfl, G', q0, gA, hD', nD, oi0⟩ | ⟨rfl, G', q0, q1, gA, hD', nD, oi0, oi1, dis⟩
    · refine .inr ⟨wk.go 0 H' G' gA.g gA.s (by simp), fun H2 => ∃ G' q0, Grow H1 G1 H2 G' ∧ H2 D9 = some (.lst [.ref q0]) ∧ G' D9 = none ∧ OI w x H1 D9 H2 G' q0 fl0, fun H2 q => ⟨1, by decide, rfl, .inr (.inl ⟨rfl, q⟩)⟩, ?_⟩
      refine turn_mk ok hw hC gr s g1 wk (i := 0) (di := d0) rfl o0 gA hD' (by decide) fun q H4 G4 g4 ro hf => ?_
      have nD4 : G4 D9 = none := g4.a D9 _ rfl nD hD'
      have hoi : OI w x H1 D9 H4 G4 q fl0 := ⟨ro, fun a fa => ⟨gA.h.free (hf a fa), fun z => by have := hf a fa; rw [z, hD'] at this; cases this⟩⟩
      exact ⟨G4, q, wr (gA.trans g4) nD4, upd_same, nD4, hoi.upd nD4⟩
    · refine .inr ⟨wk.go 1 H' G' gA.g gA.s (by simp), fun H2 => ∃ G' q0 q1, Grow H1 G1 H2 G' ∧ H2 D9 = some (.lst [.ref q0, .ref q1]) ∧ G' D9 = none ∧ OI w x H1 D9 H2 G' q0 fl0 ∧ OI w x H1 D9 H2 G' q1 fl1 ∧ ∀ a, foot H2 (.o (some q0) x fl0) (.ref q0) a → ¬ foot H2 (.o (some q1) x fl1) (.ref q1) a, fun H2 q => ⟨0, by decide, rfl, .inr (.inr ⟨rfl, q⟩)⟩, ?_⟩
      refine turn_mk ok hw hC gr s g1 wk (i := 1) (di := d1) rfl o1 gA hD' (by simp) fun q H4 G4 g4 ro hf => ?_
      have nD4 : G4 D9 = none := g4.a D9 _ rfl nD hD'
      have hoi : OI w x H1 D9 H4 G4 q fl1 := ⟨ro, fun a fa => ⟨gA.h.free (hf a fa), fun z => by have := hf a fa; rw [z, hD'] at this; cases this⟩⟩
      have h4 := oi0.grow ok g4
      refine ⟨G4, q0, q, wr (gA.trans g4) nD4, upd_same, nD4, h4.upd nD4, hoi.upd nD4, fun a f0 f1 => ?_⟩
      have f0' := foot_upd (fun a f => (h4.2 a f).2) h4.1 f0
      have f1' := foot_upd (fun a f => (hoi.2 a f).2) hoi.1 f1
      have z := hf a f1'
      obtain ⟨_, o', ho', _⟩ := foot_has oi0.1 (foot_same (fun p o _ z => g4.h p o z) oi0.1 f0')
      rw [z] at ho'
      cases ho'
    · refine .inl ⟨wk.stop 2 H' G' gA.g gA.s (by simp), ?_⟩
      have gk := gA.keep hD hD' nD
      refine ⟨.ref q0, .ref q1, H0, B, _, _, (gr.trans g1).trans gk, ?_, by rw [hgg q0 q1]; exact h⟩
      have s1 := (s.grow ok g1).grow ok gk
      have off : ∀ (j : Nat) (r' : R) (v' : V) (a : Addr), env[j]? = some (some r') → σ[j]? = some (some v') → foot H' r' v' a → H1 a ≠ none := fun j r' v' a e1 e2 f2 z => by
        obtain ⟨_, u, b, c, _⟩ := (s.grow ok g1).at_ j r' e1
        rw [e2] at b
        cases b
        obtain ⟨_, o, ho, _⟩ := foot_has c (foot_same (fun p o _ h => gk.h p o h) c f2)
        rw [z] at ho
        cases ho
      have kp : ∀ {q : Addr} {fl : Fl}, OI w x H1 D9 H' G' q fl → Rr w H' (upd G' D9 (.lst [.ref q0, .ref q1])) (.ref q) (.o (some q) x fl) := fun {q fl} oi =>
        oi.1.keep ok (Same.new nD) fun a o f ho => ⟨ho, by rw [upd_ne (oi.2 a f).2]; exact (foot_has oi.1 f).1⟩
      have h01 := (gr.trans g1).h
      have sT := s1.set (i := t) (r := .z [.int (q0 : Nat), .int (q1 : Nat)]) (v := .ref D9) ht rfl ⟨D9, rfl, by rw [hsr]; exact ⟨[q0, q1], rfl, upd_same⟩⟩ (fun a f => f.elim) (fun _ _ _ _ _ _ _ f => f.elim)
      have offT : ∀ (j : Nat) (r' : R) (v' : V) (a : Addr), (env.set t (some (.z [.int (q0 : Nat), .int (q1 : Nat)])))[j]? = some (some r') → (σ.set t (some (.ref D9)))[j]? = some (some v') → foot H' r' v' a → H1 a ≠ none := fun j r' v' a e1 e2 f2 => by
        by_cases hj : t = j
        · subst hj
          rw [List.getElem?_set_self ht] at e1
          cases e1
          exact f2.elim
        · rw [List.getElem?_set_ne hj] at e1 e2
          exact off j r' v' a e1 e2 f2
      have sL := sT.set (i := L) (r := .o (some q0) x fl0) (v := .ref q0) (by rw [List.length_set]; omega) rfl (kp oi0) (fun a f => h01.free (oi0.2 a f).1) (fun j r' v' a hj e1 e2 f f2 => offT j r' v' a e1 e2 f2 (oi0.2 a f).1)
      refine sL.set (i := L + 1) (r := .o (some q1) x fl1) (v := .ref q1) (by rw [List.length_set, List.length_set]; exact hL) rfl (kp oi1) (fun a f => h01.free (oi1.2 a f).1) fun j r' v' a hj e1 e2 f f2 => ?_
      by_cases hjL : L = j
      · subst hjL
        have hlS : L < (σ.set t (some (V.ref D9))).length := by rw [List.length_set, ← s.len]; omega
        rw [List.getElem?_set_self (by rw [List.length_set]; omega)] at e1
        rw [List.getElem?_set_self hlS] at e2
        cases e1
        cases e2
        exact dis a f2 f
      · rw [List.getElem?_set_ne hjL] at e1 e2
        exact offT j r' v' a e1 e2 f2 (oi1.2 a f).1
  · rw [dif_neg hh] at h
    exact (h []).elim
end
end Vs
end
section
namespace Vs
open PySem PySem.Spec PyProof.Rows L2
def exN : List Str := ["BadMany", "BadRow", "Unlike", "BadPairs", "BadOrder", "BadPlace", "BadWord", "BadMove", "NotShort", "NotAlike", "NothingDone", "BadNote"]
noncomputable section
/-! is_among: 0 thing, 1 least, 2 most -/
def g_is_among : Sl → M Oc :=
  (sRet (rE (eAn (eUn (oIsi "int") (eVar 0)) (eAn (eNo (eUn (oIsi "bool") (eVar 0))) (eCh oLe oLe (eVar 1) (eVar 0) (eVar 2))))))
def m_is_among : List R → M R := runM 3 g_is_among
/-! need_many: 0 thing -/
def g_need_many : Sl → M Oc :=
  (sIf (tNo (tV (eD 3 m_is_among (aCons (eVar 0) (aCons (eC (.int 1)) (aCons (eC (.int 12)) aNil)))))) (sRaise "BadMany") sNext)
def m_need_many : List R → M R := runM 1 g_need_many
/-! first_row: 0 many -/
def g_first_row : Sl → M Oc :=
  (sSeq (sDrop (eD 1 m_need_many (aCons (eVar 0) aNil)))
  (sRet (rE (eLR2 (eC (.int 1)) (eOp oAdd (eVar 0) (eC (.int 1)))))))
def m_first_row : List R → M R := runM 1 g_first_row
/-! is_place: 0 thing, 1 many -/
def g_is_place : Sl → M Oc :=
  (sRet (rE (eD 3 m_is_among (aCons (eVar 0) (aCons (eC (.int 1)) (aCons (eOp oSub (eVar 1) (eC (.int 1))) aNil))))))
def m_is_place : List R → M R := runM 2 g_is_place
/-! exchanged: 0 row, 1 place -/
def g_exchanged : Sl → M Oc :=
  (sRet (rE (eOp oAdd (eOp oAdd (eSl (eVar 0) oNone (oSome (eOp oSub (eVar 1) (eC (.int 1))))) (eL (dCons (eOp ix2 (eVar 0) (eVar 1)) (dCons (eOp ix2 (eVar 0) (eOp oSub (eVar 1) (eC (.int 1)))) dNil)))) (eSl (eVar 0) (oSome (eOp oAdd (eVar 1) (eC (.int 1)))) oNone))))
def m_exchanged : List R → M R := runM 2 g_exchanged
/-! goes_up: 0 places, 1 many, 2 here, 3 place -/
/-- the body of a loop over place -/
def b1_goes_up : Sl → M Oc :=
  (sSeq (sIf (tV (eOp oGt (eOp ix2 (eVar 2) (eOp oSub (eVar 3) (eC (.int 1)))) (eOp ix2 (eVar 2) (eVar 3)))) (sRet (rE (eC (.bool false)))) sNext)
  (sSet 2 (eD 2 m_exchanged (aCons (eVar 2) (aCons (eVar 3) aNil)))))
def g_goes_up : Sl → M Oc :=
  (sSeq (sSet 2 (eD 1 m_first_row (aCons (eVar 1) aNil)))
  (sSeq (sFor (iL (eVar 0)) (gN 3) b1_goes_up)
  (sRet (rE (eC (.bool true))))))
def m_goes_up : List R → M R := runM 4 g_goes_up
/-! Trail.__init__: 0 self, 1 many -/
def g_Trail___init__ : Sl → M Oc :=
  (sSeq (sFst "Trail" 0 "now" (eD 1 m_first_row (aCons (eVar 1) aNil)))
  (sFst "Trail" 0 "past" (eL dNil)))
def m_Trail___init__ : List R → M R := runM 2 g_Trail___init__
def mo_Trail___init__ : Mo := runO 2 "Trail" g_Trail___init__
/-! Trail.swap: 0 self, 1 place -/
def g_Trail_swap : Sl → M Oc :=
  (sSeq (sIf (tNo (tV (eD 2 m_is_place (aCons (eVar 1) (aCons (eF (one1 oLen) (aCons (eFld "Trail" 0 "now") aNil)) aNil))))) (sRaise "BadPlace") sNext)
  (sSeq (sFst "Trail" 0 "now" (eD 2 m_exchanged (aCons (eFld "Trail" 0 "now") (aCons (eVar 1) aNil))))
  (sFm "Trail" 0 "past" (dCons (eVar 1) dNil) opApp)))
def m_Trail_swap : List R → M R := runM 2 g_Trail_swap
def mo_Trail_swap : Mo := runO 2 "Trail" g_Trail_swap
/-! Trail.back: 0 self, 1 place -/
def g_Trail_back : Sl → M Oc :=
  (sSeq (sIf (tV (eOp (oEq false) (eFld "Trail" 0 "past") (eL dNil))) (sRaise "NothingDone") sNext)
  (sSeq (sSetM 1 (mFpop "Trail" 0 "past"))
  (sSeq (sFst "Trail" 0 "now" (eD 2 m_exchanged (aCons (eFld "Trail" 0 "now") (aCons (eVar 1) aNil))))
  (sRetS (eVar 1)))))
def m_Trail_back : List R → M R := runM 2 g_Trail_back
def mo_Trail_back : Mo := runO 2 "Trail" g_Trail_back
/-! Trail.row: 0 self -/
def g_Trail_row : Sl → M Oc :=
  (sRetS (eF (one1 oList) (aCons (eFld "Trail" 0 "now") aNil)))
def m_Trail_row : List R → M R := runM 1 g_Trail_row
def mo_Trail_row : Mo := runO 1 "Trail" g_Trail_row
/-! Trail.places: 0 self -/
def g_Trail_places : Sl → M Oc :=
  (sRetS (eF (one1 oList) (aCons (eFld "Trail" 0 "past") aNil)))
def m_Trail_places : List R → M R := runM 1 g_Trail_places
def mo_Trail_places : Mo := runO 1 "Trail" g_Trail_places
/-! Trail.is_short: 0 self -/
def g_Trail_is_short : Sl → M Oc :=
  (sRetS (eD 2 m_goes_up (aCons (eFld "Trail" 0 "past") (aCons (eF (one1 oLen) (aCons (eFld "Trail" 0 "now") aNil)) aNil))))
def m_Trail_is_short : List R → M R := runM 1 g_Trail_is_short
def mo_Trail_is_short : Mo := runO 1 "Trail" g_Trail_is_short
/-! _law_draw: 0 _law_script, 1 _law_k, 2 _law_cell, 3 _law_turn, 4 _law_number -/
/-- the body of a loop over _law_turn -/
def b1_law_draw : Sl → M Oc :=
  (sSet 2 (eOp oDiv (eVar 2) (eC (.int 1000000))))
def g_law_draw : Sl → M Oc :=
  (sSeq (sIf (tAn (tV (eOp (oEq true) (eVar 0) (eL dNil))) (tV (eOp (oEq false) (eOp oMod (eOp ix2 (eVar 0) (eC (.int 0))) (eC (.int 2))) (eC (.int 0))))) (sSeq (sSet 2 (eOp oDiv (eOp ix2 (eVar 0) (eOp oMod (eVar 1) (eF (one1 oLen) (aCons (eVar 0) aNil)))) (eC (.int 2))))
  (sSeq (sFor (iR1 (aCons (eOp oMod (eOp oDiv (eVar 1) (eF (one1 oLen) (aCons (eVar 0) aNil))) (eC (.int 60))) aNil)) (gN 3) b1_law_draw)
  (sRet (rE (eOp oMod (eVar 2) (eC (.int 1000000))))))) sNext)
  (sSeq (sSet 2 (eC (.int 0)))
  (sSeq (sIf (tV (eOp (oEq true) (eVar 0) (eL dNil))) (sSet 2 (eOp oAdd (eOp oMul (eC (.int 31)) (eF (one1 oSum) (aCons (eVar 0) aNil))) (eOp ix2 (eVar 0) (eOp oMod (eVar 1) (eF (one1 oLen) (aCons (eVar 0) aNil)))))) sNext)
  (sSeq (sSet 4 (eOp oAdd (eOp oAdd (eOp oMod (eVar 2) (eC (.int 1000000007))) (eOp oMul (eC (.int 7919)) (eVar 1))) (eC (.int 13))))
  (sRet (rE (eOp oDiv (eOp oMod (eOp oMul (eOp oMod (eOp oMul (eVar 4) (eVar 4)) (eC (.int 1000000007))) (eVar 4)) (eC (.int 998244353))) (eC (.int 11)))))))))
def m_law_draw : List R → M R := runM 5 g_law_draw
/-! _law_turned: 0 _law_row, 1 _law_found, 2 _law_high, 3 _law_low -/
/-- the body of a loop over _law_low -/
def b1_law_turned : Sl → M Oc :=
  (sIf (tV (eOp oLt (eOp ix2 (eVar 0) (eVar 3)) (eOp ix2 (eVar 0) (eVar 2)))) (sApp 1 (mE (eT (dCons (eOp ix2 (eVar 0) (eVar 3)) (dCons (eOp ix2 (eVar 0) (eVar 2)) dNil))))) sNext)
/-- the body of a loop over _law_high -/
def b2_law_turned : Sl → M Oc :=
  (sFor (iR2 (aCons (eOp oAdd (eVar 2) (eC (.int 1))) (aCons (eF (one1 oLen) (aCons (eVar 0) aNil)) aNil))) (gN 3) b1_law_turned)
def g_law_turned : Sl → M Oc :=
  (sSeq (sSet 1 (eL dNil))
  (sSeq (sFor (iR1 (aCons (eF (one1 oLen) (aCons (eVar 0) aNil)) aNil)) (gN 2) b2_law_turned)
  (sRet (rE (eF (one1 oSorted) (aCons (eVar 1) aNil))))))
def m_law_turned : List R → M R := runM 4 g_law_turned
/-! _law_kinds: 0 _law_e, 1 _law_found, 2 _law_word, 3 _law_fits -/
def g_law_kinds : Sl → M Oc :=
  (sSeq (sSet 1 (eL (dCons (eT (dCons (eC (.str "many")) (dCons (eUn (oIsx exN "BadMany") (eVar 0)) dNil))) (dCons (eT (dCons (eC (.str "row")) (dCons (eUn (oIsx exN "BadRow") (eVar 0)) dNil))) (dCons (eT (dCons (eC (.str "unlike")) (dCons (eUn (oIsx exN "Unlike") (eVar 0)) dNil))) dNil)))))
  (sSeq (sSet 1 (eOp oAdd (eVar 1) (eL (dCons (eT (dCons (eC (.str "pairs")) (dCons (eUn (oIsx exN "BadPairs") (eVar 0)) dNil))) (dCons (eT (dCons (eC (.str "order")) (dCons (eUn (oIsx exN "BadOrder") (eVar 0)) dNil))) dNil)))))
  (sSeq (sSet 1 (eOp oAdd (eVar 1) (eL (dCons (eT (dCons (eC (.str "place")) (dCons (eUn (oIsx exN "BadPlace") (eVar 0)) dNil))) (dCons (eT (dCons (eC (.str "word")) (dCons (eUn (oIsx exN "BadWord") (eVar 0)) dNil))) dNil)))))
  (sSeq (sSet 1 (eOp oAdd (eVar 1) (eL (dCons (eT (dCons (eC (.str "move")) (dCons (eUn (oIsx exN "BadMove") (eVar 0)) dNil))) (dCons (eT (dCons (eC (.str "short")) (dCons (eUn (oIsx exN "NotShort") (eVar 0)) dNil))) dNil)))))
  (sSeq (sSet 1 (eOp oAdd (eVar 1) (eL (dCons (eT (dCons (eC (.str "alike")) (dCons (eUn (oIsx exN "NotAlike") (eVar 0)) dNil))) (dCons (eT (dCons (eC (.str "nothing")) (dCons (eUn (oIsx exN "NothingDone") (eVar 0)) dNil))) dNil)))))
  (sSeq (sSet 1 (eOp oAdd (eVar 1) (eL (dCons (eT (dCons (eC (.str "note")) (dCons (eUn (oIsx exN "BadNote") (eVar 0)) dNil))) (dCons (eT (dCons (eC (.str "no value")) (dCons (eNo (eUn (oIsv exN) (eVar 0))) dNil))) dNil)))))
  (sSeq (sFrz 1) (sRet (rE (eLc (iL (eVar 1)) [2, 3] (gT (gCons' (gN 2) (gCons' (gN 3) gNil'))) (tV (eVar 3)) (eVar 2)))))))))))
def m_law_kinds : List R → M R := runM 4 g_law_kinds
/-! _law_is_list: 0 _law_found, 1 _law_due, 2 _law_one -/
def g_law_is_list : Sl → M Oc :=
  (sSeq (sIf (tOrr (tNo (tV (eUn (oIsi "list") (eVar 0)))) (tV (eOp (oEq true) (eVar 0) (eVar 1)))) (sRet (rE (eC (.bool false)))) sNext)
  (sRet (rE (eOp (oEq false) (eLc (iL (eVar 0)) [2] (gN 2) (tOrr (tV (eUn (oIsi "bool") (eVar 2))) (tNo (tV (eUn (oIsi "int") (eVar 2))))) (eVar 2)) (eL dNil)))))
def m_law_is_list : List R → M R := runM 3 g_law_is_list
/-! _law_walked: 0 _law_word, 1 _law_many, 2 _law_here, 3 _law_place -/
/-- the body of a loop over _law_place -/
def b1_law_walked : Sl → M Oc :=
  (sSla 2 (oSome (eOp oSub (eVar 3) (eC (.int 1)))) (oSome (eOp oAdd (eVar 3) (eC (.int 1)))) (eL (dCons (eOp ix2 (eVar 2) (eVar 3)) (dCons (eOp ix2 (eVar 2) (eOp oSub (eVar 3) (eC (.int 1)))) dNil))))
def g_law_walked : Sl → M Oc :=
  (sSeq (sSet 2 (eLR2 (eC (.int 1)) (eOp oAdd (eVar 1) (eC (.int 1)))))
  (sSeq (sFor (iL (eVar 0)) (gN 3) b1_law_walked)
  (sRet (rVar 2))))
def m_law_walked : List R → M R := runM 4 g_law_walked
/-! _law_told: 0 _law_trail, 1 _law_way, 2 _law_place, 3 _law_refused, 4 _law_told_here, 5 _law_e -/
def g_law_told : Sl → M Oc :=
  (sSeq (sSet 3 (eC .none))
  (sSeq (sSet 4 (eC .none))
  (sSeq (sTryM exN 4 5 3 (mIf (tV (eOp (oEq false) (eVar 1) (eC (.str "back")))) (mMthX "Trail" 0 0 "back" mo_Trail_back m_Trail_back aNil) (mMthX "Trail" 0 1 "swap" mo_Trail_swap m_Trail_swap (aCons (eVar 2) aNil))))
  (sRetS (eGood (eIf (tV (eOp (oIsN false) (eVar 3) (eC .none))) (eL (dCons (eC (.str "told")) (dCons (eVar 4) dNil))) (eD 1 m_law_kinds (aCons (eVar 3) aNil))))))))
def m_law_told : List R → M R := runM 6 g_law_told
def mo_law_told : Mo := runO 6 "Trail" g_law_told
/-! _law_right: 0 _law_trail, 1 _law_past, 2 _law_many, 3 _law_row, 4 _law_turn, 5 _law_found, 6 _law_told_here -/
/-- the body of a loop over _law_turn -/
def b1_law_right : Sl → M Oc :=
  (sSeq (sSet 5 (eMthR "Trail" 0 0 "row" m_Trail_row))
  (sSeq (sSet 6 (eMthR "Trail" 0 0 "places" m_Trail_places))
  (sSeq (sIf (tOrr (tNo (tV (eD 2 m_law_is_list (aCons (eVar 5) (aCons (eVar 3) aNil))))) (tNo (tV (eD 2 m_law_is_list (aCons (eVar 6) (aCons (eVar 1) aNil)))))) (sRet (rE (eC (.bool false)))) sNext)
  (sSeq (sApp 5 (mE (eC (.int 0))))
  (sApp 6 (mE (eC (.int 0))))))))
def g_law_right : Sl → M Oc :=
  (sSeq (sSet 3 (eD 2 m_law_walked (aCons (eVar 1) (aCons (eVar 2) aNil))))
  (sSeq (sFor (iR1 (aCons (eC (.int 2)) aNil)) (gN 4) b1_law_right)
  (sRet (rE (eOp (oEq false) (eF (one1 oRepB) (aCons (eMthR "Trail" 0 0 "is_short" m_Trail_is_short) aNil)) (eF (one1 oRepB) (aCons (eOp (oEq false) (eF (one1 oLen) (aCons (eVar 1) aNil)) (eF (one1 oLen) (aCons (eD 1 m_law_turned (aCons (eVar 3) aNil)) aNil))) aNil)))))))
def m_law_right : List R → M R := runM 7 g_law_right
/-! _law_long_right: 0 _law_script, 1 _law_many, 2 _law_trail, 3 _law_turn, 4 _law_past, 5 _law_place, 6 _law_refused, 7 _law_told_here, 8 _law_e -/
/-- the body of a loop over _law_place -/
def b1_law_long_right : Sl → M Oc :=
  (sDropM (mMth "Trail" 2 1 "swap" mo_Trail_swap (aCons (eVar 5) aNil)))
def g_law_long_right : Sl → M Oc :=
  (sSeq (sSet 1 (eOp oAdd (eC (.int 2)) (eOp oMod (eOp oDiv (eD 2 m_law_draw (aCons (eVar 0) (aCons (eC (.int 510)) aNil))) (eC (.int 4))) (eC (.int 11)))))
  (sMk1 2 1 "Trail" mo_Trail___init__ (aCons (eVar 1) aNil)
  (sSeq (sSet 4 (eLc (iR1 (aCons (eC (.int 205)) aNil)) [3] (gN 3) tTrue (eOp oAdd (eC (.int 1)) (eOp oMod (eVar 3) (eOp oSub (eVar 1) (eC (.int 1)))))))
  (sSeq (sFrz 4) (sSeq (sFor (iL (eVar 4)) (gN 5) b1_law_long_right)
  (sSeq (sSet 6 (eC .none))
  (sSeq (sSet 7 (eC .none))
  (sSeq (sTry exN 7 8 6 (eMthR "Trail" 2 0 "is_short" m_Trail_is_short))
  (sRet (rE (eAn (eOp (oIsN false) (eVar 6) (eC .none)) (eAn (eOp (oIsB false) (eVar 7) (eC (.bool false))) (eAn (eOp (oEq false) (eMthR "Trail" 2 0 "places" m_Trail_places) (eVar 4)) (eOp (oEq false) (eMthR "Trail" 2 0 "row" m_Trail_row) (eD 2 m_law_walked (aCons (eVar 4) (aCons (eVar 1) aNil)))))))))))))))))
def m_law_long_right : List R → M R := runM 9 g_law_long_right
/-! law: 0 _law_script, 1 _law_k, 2 _law_counts, 3 _law_many, 4 _law_trails, 5 _law_pasts, 6 _law_cell, 7 _law_number, 8 _law_which, 9 _law_past, 10 _law_way, 11 _law_place, 12 _law_due, 13 _law_found, 14 _law_odd -/
/-- the body of a loop over (_law_k, _law_cell) -/
def b1_law : Sl → M Oc :=
  (sSeq (sSet 7 (eOp oDiv (eOp oMod (eOp oMul (eOp oAdd (eOp oAdd (eOp oMod (eVar 6) (eC (.int 1000000007))) (eOp oMul (eC (.int 7919)) (eVar 1))) (eC (.int 5))) (eC (.int 48271))) (eC (.int 2147483647))) (eC (.int 3))))
  (sSeq (sIf (tAn (tV (eOp (oEq true) (eVar 0) (eL dNil))) (tV (eOp (oEq false) (eOp oMod (eOp ix2 (eVar 0) (eC (.int 0))) (eC (.int 2))) (eC (.int 0))))) (sSet 7 (eOp oMod (eOp oDiv (eVar 6) (eC (.int 2))) (eOp oPow (eC (.int 10)) (eC (.int 60))))) sNext)
  (sSeq (sSet 8 (eOp oDiv (eOp oMod (eVar 7) (eC (.int 3))) (eC (.int 2))))
  (sSeq (sSet 3 (eOp ix2 (eVar 2) (eVar 8)))
  (sSeq (sSet 9 (eOp ix2 (eVar 5) (eVar 8)))
  (sSeq (sSet 10 (eOp oMod (eOp oDiv (eVar 7) (eC (.int 3))) (eC (.int 8))))
  (sSeq (sSet 11 (eOp oAdd (eC (.int 1)) (eOp oMod (eOp oDiv (eVar 7) (eC (.int 24))) (eF oMax2 (aCons (eC (.int 1)) (aCons (eOp oSub (eVar 3) (eC (.int 1))) aNil))))))
  (sSeq (sIf (tV (eOp (oEq false) (eVar 10) (eC (.int 0)))) (sSeq (sSet 12 (eIf (tV (eOp (oEq false) (eVar 9) (eL dNil))) (eL (dCons (eC (.str "nothing")) dNil)) (eL (dCons (eC (.str "told")) (dCons (eOp ix2 (eVar 9) (eUn oNeg (eC (.int 1)))) dNil)))))
  (sSeq (sSetM 13 (mCallG "Trail" 4 15 2 mo_law_told (eVar 8) (aCons (eC (.str "back")) (aCons (eC .none) aNil))))
  (sItm 5 (eVar 8) (eSl (eVar 9) oNone (oSome (eUn oNeg (eC (.int 1)))))))) (sIf (tOrr (tV (eOp (oEq false) (eVar 10) (eC (.int 1)))) (tV (eOp (oEq false) (eVar 3) (eC (.int 1))))) (sSeq (sSet 14 (eOp ix2 (eL (dCons (eC (.int 0)) (dCons (eVar 3) (dCons (eUn oNeg (eC (.int 1))) (dCons (eC (.bool true)) (dCons (eC .none) (dCons (eC (.str "1")) (dCons (eL (dCons (eC (.int 1)) dNil)) (dCons (eOp oPow (eC (.int 10)) (eC (.int 20))) (dCons (eOp oAdd (eVar 3) (eVar 7)) dNil)))))))))) (eOp oMod (eOp oDiv (eVar 7) (eC (.int 24))) (eC (.int 9)))))
  (sSeq (sSet 12 (eL (dCons (eC (.str "place")) dNil)))
  (sSetM 13 (mCallG "Trail" 4 15 2 mo_law_told (eVar 8) (aCons (eC (.str "swap")) (aCons (eVar 14) aNil)))))) (sSeq (sSet 12 (eL (dCons (eC (.str "told")) (dCons (eC .none) dNil))))
  (sSeq (sSetM 13 (mCallG "Trail" 4 15 2 mo_law_told (eVar 8) (aCons (eC (.str "swap")) (aCons (eVar 11) aNil))))
  (sItm 5 (eVar 8) (eOp oAdd (eVar 9) (eL (dCons (eVar 11) dNil))))))))
  (sSeq (sIf (tOrr (tV (eOp (oEq true) (eVar 13) (eVar 12))) (tV (eUn (oIsi "bool") (eOp ix2 (eVar 13) (eUn oNeg (eC (.int 1))))))) (sRet (rE (eC (.bool false)))) sNext)
  (sIf (tNo (tV (eCallG "Trail" 4 15 2 m_law_right (eOp oMod (eVar 1) (eC (.int 2))) (aCons (eOp ix2 (eVar 5) (eOp oMod (eVar 1) (eC (.int 2)))) (aCons (eOp ix2 (eVar 2) (eOp oMod (eVar 1) (eC (.int 2)))) aNil))))) (sRet (rE (eC (.bool false)))) sNext))))))))))
def g_law : Sl → M Oc :=
  (sSeq (sSet 2 (eLc (iR1 (aCons (eC (.int 2)) aNil)) [1] (gN 1) tTrue (eOp oAdd (eC (.int 1)) (eOp oMod (eOp oDiv (eD 2 m_law_draw (aCons (eVar 0) (aCons (eOp oAdd (eC (.int 500)) (eVar 1)) aNil))) (eC (.int 4))) (eC (.int 12))))))
  (sSeq (sFrz 2) (sMk2 4 15 1 "Trail" mo_Trail___init__ (iL (eVar 2)) [3] (gN 3) (aCons (eVar 3) aNil)
  (sSeq (sSet 5 (eL (dCons (eL dNil) (dCons (eL dNil) dNil))))
  (sSeq (sFor (iE (aCons (eOp oAdd (eSl (eVar 0) oNone (oSome (eC (.int 200)))) (eL (dCons (eC (.int 0)) dNil))) aNil)) (gT (gCons' (gN 1) (gCons' (gN 6) gNil'))) b1_law)
  (sSeq (sIf (tOrr (tNo (tV (eCallG "Trail" 4 15 2 m_law_right (eC (.int 0)) (aCons (eOp ix2 (eVar 5) (eC (.int 0))) (aCons (eOp ix2 (eVar 2) (eC (.int 0))) aNil))))) (tNo (tV (eCallG "Trail" 4 15 2 m_law_right (eC (.int 1)) (aCons (eOp ix2 (eVar 5) (eC (.int 1))) (aCons (eOp ix2 (eVar 2) (eC (.int 1))) aNil)))))) (sRet (rE (eC (.bool false)))) sNext)
  (sRet (rE (eD 1 m_law_long_right (aCons (eVar 0) aNil))))))))))
def m_law : List R → M R := runM 17 g_law
end
end Vs
end
section
namespace Vs
open PySem PySem.Spec PyProof.Rows L2
/-! ## what the program's defs do, on plain data -/
abbrev LI (ns : List Int) : PD := .list (ns.map PyData.int)
structure IsRow (ns : List Int) : Prop where
  lo : 1 ≤ ns.length
  hi : ns.length ≤ 12
  mem : ∀ x ∈ ns, 1 ≤ x ∧ x ≤ (ns.length : Int)
  nd : ns.Nodup
theorem is_among_i (i lo hi : Int) : m_is_among [.d (.int i), .d (.int lo), .d (.int hi)] = .ok (.d (.bool (decide (lo ≤ i ∧ i ≤ hi)))) := by
  simp [m_is_among, g_is_among, runM, startS, oIsi, tyN, isiB, tyTs]
  by_cases h1 : lo ≤ i <;> by_cases h2 : i ≤ hi <;> simp [h1, h2]
end Vs
end
section
namespace Vs
open PySem PySem.Spec PyProof.Rows L2
theorem oEq_s (neg : Bool) (ns : List Int) : oEq neg (.s ns) (.l true []) = .ok (.d (.bool (xor neg (decide (ns = []))))) := oEq_li (ns := ns) (ms := []) rfl rfl
theorem atI_map {ns : List Int} {i : Int} {v : Int} (h : atI ns i = some v) : atI (ns.map PyData.int) i = some (.int v) := by
  unfold atI at h ⊢
  rw [List.length_map]
  cases e : ixN ns.length i with
  | none => rw [e] at h; cases h
  | some j =>
    rw [e] at h
    have h : ns[j]? = some v := h
    show (ns.map PyData.int)[j]? = _
    rw [List.getElem?_map, h]; rfl
theorem atI_lt {α : Type} {ns : List α} {i : Int} (h0 : 0 ≤ i) (h1 : i < ns.length) : ∃ v, atI ns i = some v ∧ v ∈ ns ∧ ns[i.toNat]? = some v := by
  have hj : i.toNat < ns.length := by omega
  refine ⟨ns[i.toNat], ?_, List.getElem_mem hj, List.getElem?_eq_getElem hj⟩
  have := atI_nat (xs := ns) (j := i.toNat) (v := ns[i.toNat]) (List.getElem?_eq_getElem hj)
  rwa [Int.toNat_of_nonneg h0] at this
theorem draw_ok {ns : List Int} (hl : ns.length ≤ 63) {k : Int} (h0 : 0 ≤ k) (h1 : k ≤ 100000) : ∃ v, 0 ≤ v ∧ m_law_draw [.s ns, .d (.int k)] = .ok (.d (.int v)) := by
  -- the mixed way
  have mixed : ∀ c : Int, ∃ v, 0 ≤ v ∧ (sSeq (sSet 4 (eOp oAdd (eOp oAdd (eOp oMod (eVar 2) (eC (.int 1000000007))) (eOp oMul (eC (.int 7919)) (eVar 1))) (eC (.int 13))))
      (sRet (rE (eOp oDiv (eOp oMod (eOp oMul (eOp oMod (eOp oMul (eVar 4) (eVar 4)) (eC (.int 1000000007))) (eVar 4)) (eC (.int 998244353))) (eC (.int 11)))))) [some (.s ns), some (.d (.int k)), some (.d (.int c)), none, none] = .ok (.ret (.d (.int v))) := by
    intro c
    have m1 : 0 ≤ c % 1000000007 := Int.emod_nonneg _ (by decide)
    have m2 : c % 1000000007 < 1000000007 := Int.emod_lt_of_pos _ (by decide)
    have s1 : small64 7919 ∨ small64 k := .inl (by unfold small64; omega)
    generalize hn : c % 1000000007 + 7919 * k + 13 = n
    have n1 : small64 n := by unfold small64; omega
    have q1 : (0 : Int) < 1000000007 := by decide
    have q2 : (0 : Int) < 998244353 := by decide
    have q3 : (0 : Int) < 11 ∧ (11 : Int) < 1073741824 := by decide
    refine ⟨n * n % 1000000007 * n % 998244353 / 11, Int.ediv_nonneg (Int.emod_nonneg _ (by decide)) (by decide), ?_⟩
    simp [oMod_i q1, oMul_i s1, hn, oMul_i (.inl n1 : small64 n ∨ small64 n), oMul_i (.inr n1 : small64 (n * n % 1000000007) ∨ small64 n), oMod_i q2, oDiv_i q3]
  by_cases hne : ns = []
  · obtain ⟨v, hv, e⟩ := mixed 0
    refine ⟨v, hv, runM_ret [some (.s ns), some (.d (.int k)), none, none, none] rfl ?_⟩
    refine seq_nx [some (.s ns), some (.d (.int k)), none, none, none] (by simp [oEq_s, hne]) ?_
    refine seq_nx [some (.s ns), some (.d (.int k)), some (.d (.int 0)), none, none] (by simp) ?_
    exact seq_nx [some (.s ns), some (.d (.int k)), some (.d (.int 0)), none, none] (by simp [oEq_s, hne]) e
  · have hpos : 0 < ns.length := List.length_pos_iff.mpr hne
    have hlen : (0 : Int) < (ns.length : Int) := by omega
    have hlen2 : (0 : Int) < (ns.length : Int) ∧ (ns.length : Int) < 1073741824 := by omega
    have z1 : 0 ≤ k % (ns.length : Int) := Int.emod_nonneg _ (by omega)
    have z2 : k % (ns.length : Int) < (ns.length : Int) := Int.emod_lt_of_pos _ hlen
    obtain ⟨a, ha, _⟩ := atI_lt z1 z2
    obtain ⟨n0, hf, _⟩ := atI_lt (ns := ns) (i := 0) (by decide) hlen
    have ha := ix2_s (atI_map ha)
    have hf := ix2_s (atI_map hf)
    have q2 : (0 : Int) < 2 := by decide
    have q3 : (0 : Int) < 2 ∧ (2 : Int) < 1073741824 := by decide
    have q4 : (0 : Int) < 60 := by decide
    have q5 : (0 : Int) < 1000000 ∧ (1000000 : Int) < 1073741824 := by decide
    have q6 : (0 : Int) < 1000000 := by decide
    by_cases hp : n0 % 2 = 0
    · -- a cell's own digits
      have b1 : 0 ≤ k / (ns.length : Int) % 60 := Int.emod_nonneg _ (by decide)
      have b2 : k / (ns.length : Int) % 60 < 60 := Int.emod_lt_of_pos _ (by decide)
      have lm : -lim ≤ k / (ns.length : Int) % 60 ∧ k / (ns.length : Int) % 60 ≤ lim := by unfold lim; omega
      obtain ⟨env', h3, h4⟩ := forGo_rng (fG := gN 3) (g := sSet 2 (eOp oDiv (eVar 2) (eC (.int 1000000)))) (lo := 0) (n := (k / (ns.length : Int) % 60).toNat)
        (fun _ env => ∃ (c : Int) (o : Option R), env = [some (.s ns), some (.d (.int k)), some (.d (.int c)), o, none]) [some (.s ns), some (.d (.int k)), some (.d (.int (a / 2))), none, none] ⟨_, _, rfl⟩ (by
          rintro i env hi ⟨c, o, rfl⟩
          exact ⟨[some (.s ns), some (.d (.int k)), some (.d (.int c)), some (.d (.int (0 + (i : Int)))), none], [some (.s ns), some (.d (.int k)), some (.d (.int (c / 1000000))), some (.d (.int (0 + (i : Int)))), none], by simp, .inl (by simp [oDiv_i q5]), _, _, rfl⟩)
      obtain ⟨c, o, rfl⟩ := h4
      refine ⟨c % 1000000, Int.emod_nonneg _ (by decide), runM_ret [some (.s ns), some (.d (.int k)), none, none, none] rfl (seq_ret (if_t (by simp [oEq_s, hne, hf, oMod_i q2, hp, oEq_i]) ?_))⟩
      refine seq_nx [some (.s ns), some (.d (.int k)), some (.d (.int (a / 2))), none, none] (by simp [oMod_i hlen, ha, oDiv_i q3]) ?_
      refine seq_nx _ (for_v (xs := rngD 0 (k / (ns.length : Int) % 60).toNat) (by simp [oDiv_i hlen2, oMod_i q4, rg1_ok lm]) h3) ?_
      exact ret_v (rE_v (by simp [oMod_i q6]))
    · obtain ⟨v, hv, e⟩ := mixed (31 * ns.sum + a)
      have s31 : small64 31 ∨ small64 ns.sum := .inl (by unfold small64; omega)
      refine ⟨v, hv, runM_ret [some (.s ns), some (.d (.int k)), none, none, none] rfl ?_⟩
      refine seq_nx [some (.s ns), some (.d (.int k)), none, none, none] (if_f (by simp [oEq_s, hne, hf, oMod_i q2, hp, oEq_i]) rfl) ?_
      refine seq_nx [some (.s ns), some (.d (.int k)), some (.d (.int 0)), none, none] (by simp) ?_
      refine seq_nx [some (.s ns), some (.d (.int k)), some (.d (.int (31 * ns.sum + a))), none, none] (if_t (by simp [oEq_s, hne]) (by simp [oMod_i hlen, ha, oSum_i (r := .s ns) (bs := ns) rfl, oMul_i s31])) e
end Vs
end
section
namespace Vs
open PySem PySem.Spec PyProof.Rows L2
def rngI (lo : Int) (n : Nat) : List Int := (List.range n).map fun (k : Nat) => lo + (k : Int)
theorem rngD_I (lo : Int) (n : Nat) : rngD lo n = (rngI lo n).map PyData.int := by
  unfold rngD rngI
  rw [List.map_map]; rfl
theorem rngI_len (lo : Int) (n : Nat) : (rngI lo n).length = n := by simp [rngI]
theorem rngI_mem {lo : Int} {n : Nat} {x : Int} : x ∈ rngI lo n ↔ lo ≤ x ∧ x < lo + n := by
  simp only [rngI, List.mem_map, List.mem_range]
  constructor
  · rintro ⟨k, hk, rfl⟩; omega
  · rintro ⟨h1, h2⟩; exact ⟨(x - lo).toNat, by omega, by omega⟩
theorem rngI_nd (lo : Int) (n : Nat) : (rngI lo n).Nodup := by
  unfold rngI
  refine List.pairwise_map.mpr (List.Pairwise.imp ?_ List.nodup_range)
  intro a b h
  omega
theorem isRow_perm {ns : List Int} {n : Nat} (h : ns.Perm (rngI 1 n)) (h1 : 1 ≤ n) (h2 : n ≤ 12) : IsRow ns := by
  have hl : ns.length = n := by rw [h.length_eq, rngI_len]
  refine ⟨by omega, by omega, fun x hx => ?_, h.nodup_iff.mpr (rngI_nd 1 n)⟩
  have := rngI_mem.mp (h.mem_iff.mp hx)
  omega
theorem mPopAt_ok {j : Nat} {f : Sl → M R} {env : Sl} {b : Bool} {xs : List PD} {i : Int} {k : Nat} {d : PD} (h : env[j]? = some (some (.l b xs))) (hf : f env = .ok (.d (.int i))) (hz : xs.length ≤ big) (hk : ixN xs.length i = some k) (hd : xs[k]? = some d) :
    mPopAt j f env = .ok (d, env.set j (some (.l false (xs.eraseIdx k)))) := by
  unfold mPopAt
  rw [h]
  show ((f env).bind fun r => (ti r).bind fun i => popAt j i env) = _
  rw [hf]
  show popAt j i env = _
  unfold popAt
  rw [h]
  show (if xs.length ≤ big then (match ixN xs.length i with
    | some k => (match xs[k]? with
      | some d => (.ok (d, env.set j (some (.l false (xs.eraseIdx k)))) : M (PD × Sl))
      | none => .error .stuck)
    | none => .error .stuck) else .error .stuck) = _
  rw [if_pos hz, hk]
  dsimp only
  rw [hd]
theorem ixN_pos {n : Nat} {i : Int} (h0 : 0 ≤ i) (h1 : i < n) : ixN n i = some i.toNat := by
  unfold ixN; rw [if_pos h0, if_pos h1]
theorem cons_erase {α : Type} : ∀ {l : List α} {i : Nat} {x : α}, l[i]? = some x → (x :: l.eraseIdx i).Perm l
  | [], i, x, h => by simp at h
  | a :: l, 0, x, h => by
    have h : a = x := by simpa using h
    subst h; exact List.Perm.refl _
  | a :: l, i + 1, x, h => by
    have h : l[i]? = some x := by simpa using h
    exact (List.Perm.swap a x _).trans ((cons_erase h).cons a)
theorem map_eraseIdx {α β : Type} (f : α → β) : ∀ (l : List α) (i : Nat), (l.map f).eraseIdx i = (l.eraseIdx i).map f
  | [], i => by simp
  | a :: l, 0 => by simp
  | a :: l, i + 1 => by
    show f a :: (l.map f).eraseIdx i = f a :: (l.eraseIdx i).map f
    rw [map_eraseIdx f l i]
theorem perm_erase {α : Type} {l f : List α} {i : Nat} {x : α} (h : l[i]? = some x) : (l.eraseIdx i ++ (f ++ [x])).Perm (l ++ f) := by
  have h1 : (x :: l.eraseIdx i).Perm l := cons_erase h
  have h2 : (l.eraseIdx i ++ (f ++ [x])).Perm (x :: l.eraseIdx i ++ f) := by
    rw [← List.append_assoc]
    exact (List.perm_append_comm (l₁ := l.eraseIdx i ++ f) (l₂ := [x])).trans (by simp)
  exact h2.trans (h1.append_right f)
theorem le12 {n : Nat} (h : n ≤ 12) : n ≤ big := Nat.le_trans h (by decide)
theorem lt12 {n : Nat} (h : n ≤ 12) : n < big := Nat.lt_of_le_of_lt h (by decide)
def rowEnv (ns : List Int) (k : Int) (n : Nat) (left found : List Int) (o : Option R) : Sl :=
  [some (.s ns), some (.d (.int k)), some (.d (.int n)), some (.l false (left.map PyData.int)), some (.l false (found.map PyData.int)), o]
theorem row_step {ns : List Int} (hl : ns.length ≤ 63) {k : Int} (h0 : 0 ≤ k) (h1 : k ≤ 90000) {n : Nat} {i : Nat} (hi : i ≤ 1000) {left found : List Int}
    (hll : left.length ≤ 12) (hfl : found.length ≤ 12) (hpos : 0 < left.length) :
    ∃ (j : Nat) (y : Int), left[j]? = some y ∧ sApp 4 (mPopAt 3 (eOp oMod (eD 2 m_law_draw (aCons (eVar 0) (aCons (eOp oAdd (eVar 1) (eVar 5)) aNil))) (eF (one1 oLen) (aCons (eVar 3) aNil))))
      (rowEnv ns k n left found (some (.d (.int (0 + (i : Int)))))) = .ok (.nx (rowEnv ns k n (left.eraseIdx j) (found ++ [y]) (some (.d (.int (0 + (i : Int))))))) := by
  have hpos : (0 : Int) < (left.length : Int) := by omega
  obtain ⟨v, hv, hd⟩ := draw_ok hl (k := k + (i : Int)) (by omega) (by omega)
  have z1 : 0 ≤ v % (left.length : Int) := Int.emod_nonneg _ (by omega)
  have z2 : v % (left.length : Int) < (left.length : Int) := Int.emod_lt_of_pos _ hpos
  have hj : (v % (left.length : Int)).toNat < left.length := by omega
  have hx : left[(v % (left.length : Int)).toNat]? = some left[(v % (left.length : Int)).toNat] := List.getElem?_eq_getElem hj
  generalize hy : left[(v % (left.length : Int)).toNat] = y at hx
  refine ⟨_, y, hx, ?_⟩
  have hm : eOp oMod (eD 2 m_law_draw (aCons (eVar 0) (aCons (eOp oAdd (eVar 1) (eVar 5)) aNil))) (eF (one1 oLen) (aCons (eVar 3) aNil)) (rowEnv ns k n left found (some (.d (.int (0 + (i : Int)))))) = .ok (.d (.int (v % (left.length : Int)))) := by
    simp [rowEnv, hd, oMod_i hpos]
  have hp := mPopAt_ok (j := 3) (f := eOp oMod (eD 2 m_law_draw (aCons (eVar 0) (aCons (eOp oAdd (eVar 1) (eVar 5)) aNil))) (eF (one1 oLen) (aCons (eVar 3) aNil)))
    (env := rowEnv ns k n left found (some (.d (.int (0 + (i : Int)))))) (b := false) (xs := left.map PyData.int) (i := v % (left.length : Int)) (k := (v % (left.length : Int)).toNat) (d := .int y) rfl hm
    (by rw [List.length_map]; exact le12 hll) (by rw [List.length_map]; exact ixN_pos z1 z2) (by rw [List.getElem?_map, hx]; rfl)
  have ha : appS 4 (.int y) ((rowEnv ns k n left found (some (.d (.int (0 + (i : Int)))))).set 3 (some (.l false ((left.map PyData.int).eraseIdx (v % (left.length : Int)).toNat)))) = _ :=
    appS_ok (b := false) (xs := found.map PyData.int) rfl (by rw [List.length_map]; exact lt12 hfl)
  rw [sApp_l (xs := found.map PyData.int) (b := false) rfl, hp]
  refine Eq.trans (congrArg nxS ha) ?_
  rw [map_eraseIdx]
  simp [rowEnv]
end Vs
end
section
namespace Vs
open PySem PySem.Spec PyProof.Rows L2
def drawV (ns : List Int) (k : Int) : Int := match m_law_draw [.s ns, .d (.int k)] with
  | .ok (.d (.int v)) => v
  | _ => 0
theorem draw_v {ns : List Int} (hl : ns.length ≤ 63) {k : Int} (h0 : 0 ≤ k) (h1 : k ≤ 100000) : m_law_draw [.s ns, .d (.int k)] = .ok (.d (.int (drawV ns k))) ∧ 0 ≤ drawV ns k := by
  obtain ⟨v, hv, e⟩ := draw_ok hl h0 h1
  have : drawV ns k = v := by unfold drawV; rw [e]
  rw [this]; exact ⟨e, hv⟩
theorem cut_to {α : Type} (xs : List α) {n : Nat} (h : n ≤ xs.length) : cutD xs none (some (n : Int)) = xs.take n := by
  unfold cutD
  rw [HT.sIx_none, HT.sIx_nat, List.drop_zero, Nat.sub_zero, Nat.min_eq_left h]
theorem cut_from {α : Type} (xs : List α) {n : Nat} (h : n ≤ xs.length) : cutD xs (some (n : Int)) none = xs.drop n := by
  unfold cutD
  rw [HT.sIx_none, HT.sIx_nat, Nat.min_eq_left h]
  exact List.take_of_length_le (by simp)
/-- two neighbours change places -/
def swI (p : Int) (ns : List Int) : List Int := ns.take (p - 1).toNat ++ [ns.getD p.toNat 0, ns.getD (p - 1).toNat 0] ++ ns.drop (p + 1).toNat
theorem sw_cut {p : Int} {ns : List Int} (h0 : 1 ≤ p) (h1 : p < ns.length) : ∃ a x y b, ns = a ++ x :: y :: b ∧ (a.length : Int) + 1 = p := by
  obtain ⟨q, rfl⟩ : ∃ q : Nat, p = (q : Int) + 1 := ⟨(p - 1).toNat, by omega⟩
  have hq : q < ns.length := by omega
  have hq1 : q + 1 < ns.length := by omega
  refine ⟨ns.take q, ns[q], ns[q + 1], ns.drop (q + 2), ?_, by simp; omega⟩
  rw [← List.drop_eq_getElem_cons hq1, ← List.drop_eq_getElem_cons hq, List.take_append_drop]
theorem sw_at (a : List Int) (x y : Int) (b : List Int) {p : Int} (h : (a.length : Int) + 1 = p) : swI p (a ++ x :: y :: b) = a ++ y :: x :: b := by
  subst h
  have e1 : ((a.length : Int) + 1 - 1).toNat = a.length := by omega
  have e2 : ((a.length : Int) + 1).toNat = a.length + 1 := by omega
  have e3 : ((a.length : Int) + 1 + 1).toNat = a.length + 2 := by omega
  unfold swI
  rw [e1, e2, e3]
  simp
theorem sw_perm {p : Int} {ns : List Int} (h0 : 1 ≤ p) (h1 : p < ns.length) : (swI p ns).Perm ns := by
  obtain ⟨a, x, y, b, rfl, h⟩ := sw_cut h0 h1
  rw [sw_at a x y b h]
  exact (List.Perm.swap x y b).append_left a
theorem sw_sw {p : Int} {ns : List Int} (h0 : 1 ≤ p) (h1 : p < ns.length) : swI p (swI p ns) = ns := by
  obtain ⟨a, x, y, b, rfl, h⟩ := sw_cut h0 h1
  rw [sw_at a x y b h, sw_at a y x b h]
theorem IsRow.perm {ns ms : List Int} (h : IsRow ns) (p : ms.Perm ns) : IsRow ms := by
  have hl := p.length_eq
  exact ⟨by rw [hl]; exact h.lo, by rw [hl]; exact h.hi, fun x hx => by rw [hl]; exact h.mem x (p.mem_iff.mp hx), p.nodup_iff.mpr h.nd⟩
end Vs
end
section
namespace Vs
open PySem PySem.Spec PyProof.Rows L2
/-! whether a list is told -/
theorem is_list_i (ns ms : List Int) : m_law_is_list [.d (LI ns), .d (LI ms)] = .ok (.d (.bool (decide (ns = ms)))) := by
  have q : oEq true (.d (LI ns)) (.d (LI ms)) = .ok (.d (.bool (xor true (decide (ns = ms))))) := oEq_li rfl rfl
  have q0 : oEq false (.l true []) (.l true []) = .ok (.d (.bool (xor false (decide (([] : List Int) = []))))) := oEq_li (ns := []) (ms := []) rfl rfl
  by_cases h : ns = ms
  · refine runM_ret [some (.d (LI ns)), some (.d (LI ms)), none] rfl ?_
    refine seq_nx [some (.d (LI ns)), some (.d (LI ms)), none] (if_f (by subst h; simp [oIsi, tyN, isiB, tyTs, q]) rfl) ?_
    refine ret_v (rE_v ?_)
    have e := lcGo_map (fG := gN 2) (ft := tOrr (tV (eUn (oIsi "bool") (eVar 2))) (tNo (tV (eUn (oIsi "int") (eVar 2))))) (fe := eVar 2) (env := [some (.d (LI ns)), some (.d (LI ms)), none]) PyData.int (fun _ => false) (fun _ => PyData.none) (xs := ns) (fun x _ =>
      ⟨[some (.d (LI ns)), some (.d (LI ms)), some (.d (.int x))], by simp, by simp [oIsi, tyN, isiB, tyTs], fun h => by cases h⟩)
    have f0 : ns.filter (fun _ => false) = [] := by simp
    rw [f0] at e
    subst h
    simp [oIsi, tyN, isiB, tyTs, e, mkL_ok, q0]
  · refine runM_ret [some (.d (LI ns)), some (.d (LI ms)), none] rfl ?_
    refine seq_ret (if_t (by simp [oIsi, tyN, isiB, tyTs, q, h]) ?_)
    exact ret_v (rE_v (by simp [h]))
end Vs
end
section
namespace Vs
open PySem PySem.Spec PyProof.Rows L2
/-! ## the pairs; the turned ones -/
def rowP (n : Nat) (lo : Int) : List (Int × Int) := (rngI (lo + 1) ((n : Int) - lo).toNat).map fun hi => (lo, hi)
def allP (n : Nat) : List (Int × Int) := (rngI 1 (n - 1)).flatMap (rowP n)
theorem mem_rowP {n : Nat} {lo : Int} {p : Int × Int} : p ∈ rowP n lo ↔ p.1 = lo ∧ lo < p.2 ∧ p.2 ≤ n := by
  unfold rowP
  rw [List.mem_map]
  constructor
  · rintro ⟨hi, h, rfl⟩
    have := rngI_mem.mp h
    exact ⟨rfl, by dsimp only; omega, by dsimp only; omega⟩
  · rintro ⟨h1, h2, h3⟩
    exact ⟨p.2, rngI_mem.mpr (by omega), by rw [← h1]⟩
theorem mem_allP {n : Nat} {p : Int × Int} : p ∈ allP n ↔ 1 ≤ p.1 ∧ p.1 < p.2 ∧ p.2 ≤ n := by
  unfold allP
  rw [List.mem_flatMap]
  constructor
  · rintro ⟨lo, h1, h2⟩
    have := rngI_mem.mp h1
    have := mem_rowP.mp h2
    omega
  · rintro ⟨h1, h2, h3⟩
    exact ⟨p.1, rngI_mem.mpr (by omega), mem_rowP.mpr ⟨rfl, h2, h3⟩⟩
theorem rngI_lt (lo : Int) (n : Nat) : (rngI lo n).Pairwise (fun a b => a < b) := by
  unfold rngI
  refine List.pairwise_map.mpr (List.Pairwise.imp ?_ List.pairwise_lt_range)
  intro a b h
  omega
/-- first by the lower one, then by the higher one -/
def ltPr (p q : Int × Int) : Prop := p.1 < q.1 ∨ (p.1 = q.1 ∧ p.2 < q.2)
theorem rowP_lt (n : Nat) (lo : Int) : (rowP n lo).Pairwise ltPr := by
  unfold rowP
  exact List.pairwise_map.mpr ((rngI_lt _ _).imp fun h => .inr ⟨rfl, h⟩)
theorem allP_lt (n : Nat) : (allP n).Pairwise ltPr := by
  unfold allP
  have : ∀ l : List Int, l.Pairwise (fun a b => a < b) → (l.flatMap (rowP n)).Pairwise ltPr := by
    intro l
    induction l with
    | nil => intro _; simp
    | cons x l ih =>
      intro h
      rw [List.flatMap_cons, List.pairwise_append]
      obtain ⟨h1, h2⟩ := List.pairwise_cons.mp h
      refine ⟨rowP_lt n x, ih h2, fun a ha b hb => ?_⟩
      obtain ⟨y, hy, hb⟩ := List.mem_flatMap.mp hb
      have e1 := (mem_rowP.mp ha).1
      have e2 := (mem_rowP.mp hb).1
      have := h1 y hy
      exact .inl (by omega)
  exact this _ (rngI_lt _ _)
theorem ltPr_ne {p q : Int × Int} (h : ltPr p q) : p ≠ q := by
  rintro rfl
  rcases h with h | ⟨_, h⟩ <;> omega
theorem allP_nd (n : Nat) : (allP n).Nodup := (allP_lt n).imp ltPr_ne
theorem rowP_len (n : Nat) {lo : Int} (h : 0 ≤ lo) : (rowP n lo).length ≤ n := by
  unfold rowP; rw [List.length_map, rngI_len]; omega
theorem flat_len (n : Nat) : ∀ l : List Int, (∀ x ∈ l, 0 ≤ x) → (l.flatMap (rowP n)).length ≤ l.length * n
  | [], _ => by simp
  | x :: l, h => by
    have h1 := rowP_len n (h x List.mem_cons_self)
    have h2 := flat_len n l fun y hy => h y (List.mem_cons_of_mem _ hy)
    rw [List.flatMap_cons, List.length_append, List.length_cons, Nat.succ_mul]
    omega
theorem le_big {k : Nat} (h : k ≤ 2000) : k ≤ big := Nat.le_trans h (by decide)
theorem allP_len {n : Nat} (hn : n ≤ 12) : (allP n).length ≤ 144 := by
  have := flat_len n (rngI 1 (n - 1)) fun x hx => by have := rngI_mem.mp hx; omega
  rw [rngI_len] at this
  have h2 : (n - 1) * n ≤ 12 * 12 := Nat.mul_le_mul (by omega) hn
  unfold allP
  omega
theorem sExt_ok {i : Nat} {f : Sl → M R} {e : Sl} {b : Bool} {xs ys : List PD} {r : R} (h : e[i]? = some (some (.l b xs))) (hf : f e = .ok r) (hr : r.lst? = some ys) (hz : xs.length + ys.length ≤ big) : sExt i f e = .ok (.nx (e.set i (some (.l false (xs ++ ys))))) := by
  unfold sExt; rw [h]; dsimp only; rw [hf, bind_ok, hr]; dsimp only; rw [if_pos hz]
end Vs
end
section
namespace Vs
open PySem PySem.Spec PyProof.Rows L2
/-! ## the turned pairs -/
def pos (r : List Int) (x : Int) : Int := (r.idxOf x : Int)
def tuB (r : List Int) (p : Int × Int) : Bool := decide (pos r p.2 < pos r p.1)
def tuI (r : List Int) : List (Int × Int) := (allP r.length).filter (tuB r)
theorem mem_tuI {r : List Int} {p : Int × Int} : p ∈ tuI r ↔ 1 ≤ p.1 ∧ p.1 < p.2 ∧ p.2 ≤ r.length ∧ pos r p.2 < pos r p.1 := by
  unfold tuI tuB
  rw [List.mem_filter, mem_allP, decide_eq_true_eq]
  exact ⟨fun h => ⟨h.1.1, h.1.2.1, h.1.2.2, h.2⟩, fun h => ⟨⟨h.1, h.2.1, h.2.2.1⟩, h.2.2.2⟩⟩
theorem tuI_lt (r : List Int) : (tuI r).Pairwise ltPr := (allP_lt _).filter _
theorem tuI_nd (r : List Int) : (tuI r).Nodup := (tuI_lt r).imp ltPr_ne
theorem tuI_len {r : List Int} (h : r.length ≤ 12) : (tuI r).length ≤ 144 := Nat.le_trans (List.length_filter_le _ _) (allP_len h)
theorem sub_len : ∀ {l m : List Int}, l.Nodup → (∀ x ∈ l, x ∈ m) → l.length ≤ m.length
  | [], _, _, _ => Nat.zero_le _
  | x :: l, m, hn, h => by
    obtain ⟨h1, h2⟩ := List.nodup_cons.mp hn
    have hx := h x List.mem_cons_self
    have := sub_len (l := l) (m := m.erase x) h2 fun y hy => (List.mem_erase_of_ne (fun e : y = x => h1 (by rw [← e]; exact hy))).mpr (h y (List.mem_cons_of_mem _ hy))
    rw [List.length_erase_of_mem hx] at this
    have hp : 0 < m.length := List.length_pos_of_mem hx
    rw [List.length_cons]; omega
theorem IsRow.all {r : List Int} (h : IsRow r) {x : Int} (h1 : 1 ≤ x) (h2 : x ≤ r.length) : x ∈ r := by
  by_cases hx : x ∈ r
  · exact hx
  exfalso
  have : (x :: r).length ≤ (rngI 1 r.length).length := sub_len (List.nodup_cons.mpr ⟨hx, h.nd⟩) fun y hy => by
    rcases List.mem_cons.mp hy with rfl | hy
    · exact rngI_mem.mpr (by omega)
    · exact rngI_mem.mpr (by have := h.mem y hy; omega)
  rw [rngI_len, List.length_cons] at this
  omega
end Vs
end
section
namespace Vs
open PySem PySem.Spec PyProof.Rows L2
def atZ (ns : List Int) (i : Int) : Int := ns.getD i.toNat 0
theorem atZ_get {ns : List Int} {i : Int} (h0 : 0 ≤ i) (h1 : i < ns.length) : ∃ h : i.toNat < ns.length, atZ ns i = ns[i.toNat] := by
  have hj : i.toNat < ns.length := by omega
  refine ⟨hj, ?_⟩
  unfold atZ
  simp [hj]
theorem atZ_at {ns : List Int} {i : Int} (h0 : 0 ≤ i) (h1 : i < ns.length) : atI (ns.map PyData.int) i = some (.int (atZ ns i)) := by
  obtain ⟨v, e, _, g⟩ := atI_lt (ns := ns) (i := i) h0 h1
  have : atZ ns i = v := by unfold atZ; rw [List.getD, g]; rfl
  rw [this]; exact atI_map e
theorem pos_atZ {r : List Int} (h : IsRow r) {i : Int} (h0 : 0 ≤ i) (h1 : i < r.length) : pos r (atZ r i) = i := by
  obtain ⟨hj, e⟩ := atZ_get h0 h1
  unfold pos
  rw [e, List.Nodup.idxOf_getElem h.nd]
  omega
theorem atZ_pos {r : List Int} {x : Int} (h : x ∈ r) : atZ r (pos r x) = x := by
  have hl : r.idxOf x < r.length := List.idxOf_lt_length_iff.mpr h
  unfold atZ pos
  rw [Int.toNat_natCast]
  simp [hl, List.getElem_idxOf hl]
theorem pos_lt {r : List Int} {x : Int} (h : x ∈ r) : 0 ≤ pos r x ∧ pos r x < r.length := by
  have hl : r.idxOf x < r.length := List.idxOf_lt_length_iff.mpr h
  unfold pos; omega
theorem atZ_mem {r : List Int} {i : Int} (h0 : 0 ≤ i) (h1 : i < r.length) : atZ r i ∈ r := by
  obtain ⟨hj, e⟩ := atZ_get h0 h1
  rw [e]; exact List.getElem_mem hj
theorem atZ_inj {r : List Int} (h : IsRow r) {i j : Int} (i0 : 0 ≤ i) (i1 : i < r.length) (j0 : 0 ≤ j) (j1 : j < r.length) (e : atZ r i = atZ r j) : i = j := by
  rw [← pos_atZ h i0 i1, ← pos_atZ h j0 j1, e]
/-! ### the law's own turned pairs -/
def ltR (r : List Int) (i : Int) (js : List Int) : List (Int × Int) := (js.filter fun j => decide (atZ r j < atZ r i)).map fun j => (atZ r j, atZ r i)
def ltJ (r : List Int) (i : Int) : List Int := rngI (i + 1) ((r.length : Int) - (i + 1)).toNat
def ltI (r : List Int) : List (Int × Int) := (rngI 0 r.length).flatMap fun i => ltR r i (ltJ r i)
theorem mem_ltR {r : List Int} {i : Int} {p : Int × Int} (h0 : 0 ≤ i) : p ∈ ltR r i (ltJ r i) ↔ ∃ j, i < j ∧ j < r.length ∧ p = (atZ r j, atZ r i) ∧ atZ r j < atZ r i := by
  unfold ltR ltJ
  simp only [List.mem_map, List.mem_filter, rngI_mem, decide_eq_true_eq]
  constructor
  · rintro ⟨j, ⟨h1, h2⟩, rfl⟩; exact ⟨j, by omega, by omega, rfl, h2⟩
  · rintro ⟨j, h1, h2, rfl, h3⟩; exact ⟨j, ⟨by omega, h3⟩, rfl⟩
theorem mem_ltI {r : List Int} (h : IsRow r) {p : Int × Int} : p ∈ ltI r ↔ p ∈ tuI r := by
  unfold ltI
  rw [List.mem_flatMap, mem_tuI]
  constructor
  · rintro ⟨i, hi, hp⟩
    have hi := rngI_mem.mp hi
    obtain ⟨j, h1, h2, rfl, h3⟩ := (mem_ltR (by omega)).mp hp
    have m1 := h.mem _ (atZ_mem (r := r) (i := j) (by omega) h2)
    have m2 := h.mem _ (atZ_mem (r := r) (i := i) (by omega) (by omega))
    refine ⟨m1.1, h3, m2.2, ?_⟩
    dsimp only
    rw [pos_atZ h (by omega) h2, pos_atZ h (by omega) (by omega)]
    exact h1
  · rintro ⟨h1, h2, h3, h4⟩
    have m1 := h.all h1 (by omega : p.1 ≤ r.length)
    have m2 := h.all (by omega : 1 ≤ p.2) h3
    have l1 := pos_lt m1
    have l2 := pos_lt m2
    refine ⟨pos r p.2, rngI_mem.mpr (by omega), (mem_ltR (by omega)).mpr ⟨pos r p.1, h4, l1.2, ?_, ?_⟩⟩
    · rw [atZ_pos m1, atZ_pos m2]
    · rw [atZ_pos m1, atZ_pos m2]; exact h2
theorem ltI_nd {r : List Int} (h : IsRow r) : (ltI r).Nodup := by
  unfold ltI
  refine List.pairwise_flatMap.mpr ⟨fun i hi => ?_, ?_⟩
  · have hi := rngI_mem.mp hi
    unfold ltR
    refine List.pairwise_map.mpr ?_
    have hp : (ltJ r i).Pairwise fun a b => atZ r a ≠ atZ r b := by
      have hl := rngI_lt (i + 1) ((r.length : Int) - (i + 1)).toNat
      refine List.Pairwise.imp_of_mem (fun {a b} ha hb hab e => ?_) hl
      have ha := rngI_mem.mp ha
      have hb := rngI_mem.mp hb
      have := atZ_inj h (by omega) (by omega) (by omega) (by omega) e
      omega
    exact (hp.filter _).imp fun hne e => hne (Prod.mk.inj e).1
  · refine List.Pairwise.imp_of_mem (fun {a b} ha hb hab x hx y hy e => ?_) (rngI_lt 0 r.length)
    have ha := rngI_mem.mp ha
    have hb := rngI_mem.mp hb
    obtain ⟨j, _, _, e1, _⟩ := (mem_ltR (by omega)).mp hx
    obtain ⟨k, _, _, e2, _⟩ := (mem_ltR (by omega)).mp hy
    rw [e1, e2] at e
    have := atZ_inj h (by omega) (by omega) (by omega) (by omega) (Prod.mk.inj e).2
    omega
theorem sort_ltI {r : List Int} (h : IsRow r) : sortP (ltI r) = tuI r := by
  refine rise_uniq leP_anti ((sortP_perm _).trans ((List.perm_ext_iff_of_nodup (ltI_nd h) (tuI_nd r)).mpr fun p => mem_ltI h)) (sortP_pw _) ((tuI_lt r).imp fun {a b} hab => ?_)
  unfold leP
  simp only [Bool.or_eq_true, Bool.and_eq_true, decide_eq_true_eq]
  rcases hab with hab | hab
  · exact .inl hab
  · exact .inr ⟨hab.1, by omega⟩
theorem sort_tuI (r : List Int) : sortP (tuI r) = tuI r := by
  refine rise_uniq leP_anti (sortP_perm _) (sortP_pw _) ((tuI_lt r).imp fun {a b} hab => ?_)
  unfold leP
  simp only [Bool.or_eq_true, Bool.and_eq_true, decide_eq_true_eq]
  rcases hab with hab | hab
  · exact .inl hab
  · exact .inr ⟨hab.1, by omega⟩
theorem oSorted_p {r : R} {ps : List (Int × Int)} (h : r.sq? = some (ps.map prD)) : oSorted r = .ok (.l true ((sortP ps).map prD)) := by
  unfold oSorted
  rw [h]
  cases ps with
  | nil => simp [ints?, sortI, sortP]
  | cons p ps =>
    have : ints? ((p :: ps).map prD) = none := rfl
    dsimp only
    rw [this]
    dsimp only
    rw [prs_of]
theorem ltI_len {r : List Int} (h : IsRow r) : (ltI r).length ≤ 144 := by
  have := (sortP_perm (ltI r)).length_eq
  rw [sort_ltI h] at this
  rw [← this]; exact tuI_len h.hi
def ltE (r : List Int) (f : List (Int × Int)) (o2 o3 : Option R) : Sl := [some (.d (LI r)), some (.l false (f.map prD)), o2, o3]
theorem ltR_len (r : List Int) (i : Int) (js : List Int) : (ltR r i js).length ≤ js.length := by
  unfold ltR; rw [List.length_map]; exact List.length_filter_le _ _
theorem lt_big {k : Nat} (h : k ≤ 2000) : k < big := Nat.lt_of_le_of_lt h (by decide)
end Vs
end
section
namespace Vs
open PySem PySem.Spec PyProof.Rows L2
theorem lt_row {r : List Int} (h : IsRow r) {i : Int} (i0 : 0 ≤ i) (i1 : i < r.length) (f : List (Int × Int)) (hf : f.length ≤ 1000) (o3 : Option R) :
    ∃ o3', forGo (gN 3) b1_law_turned ((ltJ r i).map PyData.int) (ltE r f (some (.d (.int i))) o3) = .ok (.nx (ltE r (f ++ ltR r i (ltJ r i)) (some (.d (.int i))) o3')) := by
  have hh := h.hi
  have jl : (ltJ r i).length ≤ 12 := by unfold ltJ; rw [rngI_len]; omega
  obtain ⟨env', h3, h4⟩ := forGo_list (fG := gN 3) (g := b1_law_turned) PyData.int (ltJ r i)
    (fun t env => ∃ o, env = ltE r (f ++ ltR r i ((ltJ r i).take t)) (some (.d (.int i))) o) (ltE r f (some (.d (.int i))) o3) ⟨o3, by simp [ltR]⟩ (by
      rintro t j env ht ⟨o, rfl⟩
      have hj := rngI_mem.mp (List.mem_of_getElem? ht)
      have vj : ix2 (.d (LI r)) (.d (.int j)) = .ok (.d (.int (atZ r j))) := ix2_d (atZ_at (by omega) (by omega))
      have vi : ix2 (.d (LI r)) (.d (.int i)) = .ok (.d (.int (atZ r i))) := ix2_d (atZ_at i0 i1)
      have tk : (ltJ r i).take (t + 1) = (ltJ r i).take t ++ [j] := by rw [List.take_add_one, ht]; rfl
      have hz : (f ++ ltR r i ((ltJ r i).take t)).length ≤ 2000 := by
        have := ltR_len r i ((ltJ r i).take t)
        have : ((ltJ r i).take t).length ≤ 12 := Nat.le_trans (by rw [List.length_take]; exact Nat.min_le_right _ _) jl
        rw [List.length_append]; omega
      refine ⟨ltE r (f ++ ltR r i ((ltJ r i).take t)) (some (.d (.int i))) (some (.d (.int j))), ltE r (f ++ ltR r i ((ltJ r i).take (t + 1))) (some (.d (.int i))) (some (.d (.int j))), by simp [ltE], .inl ?_, _, rfl⟩
      unfold b1_law_turned
      by_cases c : atZ r j < atZ r i
      · refine if_t (by simp [ltE, vj, vi, c]) ?_
        rw [sApp_l (b := false) (xs := (f ++ ltR r i ((ltJ r i).take t)).map prD) rfl]
        have e1 : mE (eT (dCons (eOp ix2 (eVar 0) (eVar 3)) (dCons (eOp ix2 (eVar 0) (eVar 2)) dNil))) (ltE r (f ++ ltR r i ((ltJ r i).take t)) (some (.d (.int i))) (some (.d (.int j)))) = .ok (prD (atZ r j, atZ r i), ltE r (f ++ ltR r i ((ltJ r i).take t)) (some (.d (.int i))) (some (.d (.int j)))) := by
          simp [ltE, vj, vi, prD]
        rw [e1, bind_ok, appS_ok (b := false) (xs := (f ++ ltR r i ((ltJ r i).take t)).map prD) rfl (by rw [List.length_map]; exact lt_big hz), tk]
        simp [ltE, ltR, c]
      · refine if_f (by simp [ltE, vj, vi, c]) ?_
        rw [tk]
        simp [ltE, ltR, c])
  obtain ⟨o, rfl⟩ := h4
  rw [List.take_of_length_le (Nat.le_refl _)] at h3
  exact ⟨o, h3⟩
theorem law_turned_ok {r : List Int} (h : IsRow r) : m_law_turned [.d (LI r)] = .ok (.l true ((tuI r).map prD)) := by
  have hh := h.hi
  have b2 : (-lim : Int) ≤ (r.length : Int) ∧ (r.length : Int) ≤ lim := by unfold lim; omega
  obtain ⟨env', h3, h4⟩ := forGo_list (fG := gN 2) (g := b2_law_turned) PyData.int (rngI 0 r.length)
    (fun t env => ∃ o2 o3, env = ltE r (((rngI 0 r.length).take t).flatMap fun i => ltR r i (ltJ r i)) o2 o3) (ltE r [] none none) ⟨none, none, rfl⟩ (by
      rintro t i env ht ⟨o2, o3, rfl⟩
      have hi := rngI_mem.mp (List.mem_of_getElem? ht)
      have hz : (((rngI 0 r.length).take t).flatMap fun i => ltR r i (ltJ r i)).length ≤ 1000 := by
        have : ∀ l : List Int, (∀ i ∈ l, 0 ≤ i) → (l.flatMap fun i => ltR r i (ltJ r i)).length ≤ l.length * 12 := by
          intro l
          induction l with
          | nil => intro _; simp
          | cons x l ih =>
            intro hl
            have h1 := ltR_len r x (ltJ r x)
            have h0 := hl x List.mem_cons_self
            have h2 : (ltJ r x).length ≤ 12 := by unfold ltJ; rw [rngI_len]; omega
            have h3 := ih fun y hy => hl y (List.mem_cons_of_mem _ hy)
            rw [List.flatMap_cons, List.length_append, List.length_cons, Nat.succ_mul]; omega
        have hl : ((rngI 0 r.length).take t).length ≤ 12 := by rw [List.length_take, rngI_len]; omega
        have := this ((rngI 0 r.length).take t) fun i hi => by have := rngI_mem.mp (List.mem_of_mem_take hi); omega
        omega
      obtain ⟨o3', e⟩ := lt_row h (i := i) (by omega) (by omega) _ hz o3
      refine ⟨ltE r (((rngI 0 r.length).take t).flatMap fun i => ltR r i (ltJ r i)) (some (.d (.int i))) o3, ltE r (((rngI 0 r.length).take (t + 1)).flatMap fun i => ltR r i (ltJ r i)) (some (.d (.int i))) o3', by simp [ltE], .inl ?_, _, _, rfl⟩
      have tk : (rngI 0 r.length).take (t + 1) = (rngI 0 r.length).take t ++ [i] := by rw [List.take_add_one, ht]; rfl
      rw [tk, List.flatMap_append]
      simp only [List.flatMap_cons, List.flatMap_nil, List.append_nil]
      unfold b2_law_turned
      refine for_v (xs := (ltJ r i).map PyData.int) ?_ e
      have rg : rg2 [i + 1, (r.length : Int)] = .ok ((ltJ r i).map PyData.int) := by
        rw [rg2_ok (by unfold lim; omega) b2, rngD_I]; rfl
      simp [ltE, rg])
  obtain ⟨o2, o3, rfl⟩ := h4
  rw [List.take_of_length_le (Nat.le_refl _)] at h3
  refine runM_ret [some (.d (LI r)), none, none, none] rfl ?_
  refine seq_nx (ltE r [] none none) (by simp [ltE]) ?_
  refine seq_nx _ (for_v (xs := (rngI 0 r.length).map PyData.int) ?_ h3) ?_
  · simp [ltE, rg1_ok b2, rngD_I]
  · refine ret_v (rE_v ?_)
    have := oSorted_p (r := .l false ((ltI r).map prD)) (ps := ltI r) rfl
    rw [sort_ltI h] at this
    exact this
end Vs
end
section
namespace Vs
open PySem PySem.Spec PyProof.Rows L2
/-! ## going up by neighbours: the combinatorics -/
theorem atZ_sw {h : List Int} {p : Int} (h0 : 1 ≤ p) (h1 : p < h.length) (i : Int) (i0 : 0 ≤ i) : atZ (swI p h) i = if i = p - 1 then atZ h p else if i = p then atZ h (p - 1) else atZ h i := by
  obtain ⟨a, x, y, b, rfl, e⟩ := sw_cut h0 h1
  rw [sw_at a x y b e]
  subst e
  obtain ⟨j, rfl⟩ : ∃ j : Nat, i = (j : Int) := ⟨i.toNat, by omega⟩
  have t1 : ((a.length : Int) + 1).toNat = a.length + 1 := by omega
  have t2 : ((a.length : Int) + 1 - 1).toNat = a.length := by omega
  unfold atZ
  rw [Int.toNat_natCast, t1, t2]
  by_cases c1 : j < a.length
  · have n1 : ¬ (j : Int) = (a.length : Int) + 1 - 1 := by omega
    have n2 : ¬ (j : Int) = (a.length : Int) + 1 := by omega
    rw [if_neg n1, if_neg n2]
    simp [List.getD, List.getElem?_append_left c1]
  · by_cases c2 : j = a.length
    · subst c2
      rw [if_pos (by omega)]
      simp [List.getD]
    · by_cases c3 : j = a.length + 1
      · subst c3
        rw [if_neg (by omega), if_pos (by omega)]
        simp [List.getD]
      · rw [if_neg (by omega), if_neg (by omega)]
        obtain ⟨t, rfl⟩ : ∃ t, j = a.length + (t + 2) := ⟨j - a.length - 2, by omega⟩
        simp [List.getD, List.getElem?_append_right]
theorem isRow_sw {h : List Int} (hr : IsRow h) {p : Int} (h0 : 1 ≤ p) (h1 : p < h.length) : IsRow (swI p h) := hr.perm (sw_perm h0 h1)
theorem len_sw {h : List Int} {p : Int} (h0 : 1 ≤ p) (h1 : p < h.length) : (swI p h).length = h.length := (sw_perm h0 h1).length_eq
theorem pos_of {r : List Int} (h : IsRow r) {i x : Int} (h0 : 0 ≤ i) (h1 : i < r.length) (e : atZ r i = x) : pos r x = i := by rw [← e]; exact pos_atZ h h0 h1
theorem pos_sw {h : List Int} (hr : IsRow h) {p : Int} (h0 : 1 ≤ p) (h1 : p < h.length) {x : Int} (hx : x ∈ h) : pos (swI p h) x = if x = atZ h p then p - 1 else if x = atZ h (p - 1) then p else pos h x := by
  have hr' := isRow_sw hr h0 h1
  have hl := len_sw h0 h1
  by_cases c1 : x = atZ h p
  · rw [if_pos c1]
    refine pos_of hr' (by omega) (by omega) ?_
    rw [atZ_sw h0 h1 _ (by omega), if_pos rfl, c1]
  · rw [if_neg c1]
    by_cases c2 : x = atZ h (p - 1)
    · rw [if_pos c2]
      refine pos_of hr' (by omega) (by omega) ?_
      rw [atZ_sw h0 h1 _ (by omega), if_neg (by omega), if_pos rfl, c2]
    · rw [if_neg c2]
      have l := pos_lt hx
      refine pos_of hr' l.1 (by omega) ?_
      have n1 : ¬ pos h x = p - 1 := fun e => c2 (by rw [← e, atZ_pos hx])
      have n2 : ¬ pos h x = p := fun e => c1 (by rw [← e, atZ_pos hx])
      rw [atZ_sw h0 h1 _ l.1, if_neg n1, if_neg n2, atZ_pos hx]
theorem pos_inj {r : List Int} {x y : Int} (hx : x ∈ r) (hy : y ∈ r) (e : pos r x = pos r y) : x = y := by rw [← atZ_pos hx, ← atZ_pos hy, e]
/-- the pair that the exchange at p turns -/
def prAt (h : List Int) (p : Int) : Int × Int := (atZ h (p - 1), atZ h p)
theorem pr_new {h : List Int} (hr : IsRow h) {p : Int} (h0 : 1 ≤ p) (h1 : p < h.length) : prAt h p ∉ tuI h := by
  intro m
  have m := (mem_tuI.mp m).2.2.2
  unfold prAt at m
  dsimp only at m
  rw [pos_atZ hr (by omega) h1, pos_atZ hr (by omega) (by omega)] at m
  omega
theorem tu_sw {h : List Int} (hr : IsRow h) {p : Int} (h0 : 1 ≤ p) (h1 : p < h.length) (ha : atZ h (p - 1) < atZ h p) (q : Int × Int) : q ∈ tuI (swI p h) ↔ q ∈ tuI h ∨ q = prAt h p := by
  have hl := len_sw h0 h1
  have m1 := atZ_mem (r := h) (i := p - 1) (by omega) (by omega)
  have m2 := atZ_mem (r := h) (i := p) (by omega) h1
  have b1 := hr.mem _ m1
  have b2 := hr.mem _ m2
  have p1 := pos_atZ hr (i := p - 1) (by omega) (by omega)
  have p2 := pos_atZ hr (i := p) (by omega) h1
  rw [mem_tuI, mem_tuI, hl]
  by_cases hq : 1 ≤ q.1 ∧ q.1 < q.2 ∧ q.2 ≤ h.length
  · obtain ⟨q1, q2, q3⟩ := hq
    have x1 := hr.all q1 (by omega : q.1 ≤ h.length)
    have x2 := hr.all (by omega : 1 ≤ q.2) q3
    rw [pos_sw hr h0 h1 x1, pos_sw hr h0 h1 x2]
    have e1 : ∀ x ∈ h, x = atZ h p ↔ pos h x = p := fun x hx => ⟨fun e => by rw [e]; exact p2, fun e => by rw [← e, atZ_pos hx]⟩
    have e2 : ∀ x ∈ h, x = atZ h (p - 1) ↔ pos h x = p - 1 := fun x hx => ⟨fun e => by rw [e]; exact p1, fun e => by rw [← e, atZ_pos hx]⟩
    have ep : q = prAt h p ↔ q.1 = atZ h (p - 1) ∧ q.2 = atZ h p := ⟨fun e => by rw [e]; exact ⟨rfl, rfl⟩, fun e => Prod.ext e.1 e.2⟩
    rw [ep]
    by_cases c1 : q.1 = atZ h p
    · have d1 := (e1 _ x1).mp c1
      have n1 : ¬ q.2 = atZ h p := fun e => by omega
      have n2 : ¬ q.2 = atZ h (p - 1) := fun e => by omega
      have n3 : ¬ pos h q.2 = p := fun e => n1 ((e1 _ x2).mpr e)
      have n4 : ¬ pos h q.2 = p - 1 := fun e => n2 ((e2 _ x2).mpr e)
      rw [if_pos c1, if_neg n1, if_neg n2]
      omega
    · by_cases c2 : q.1 = atZ h (p - 1)
      · have d2 := (e2 _ x1).mp c2
        rw [if_neg c1, if_pos c2]
        by_cases c3 : q.2 = atZ h p
        · rw [if_pos c3]
          omega
        · have n2 : ¬ q.2 = atZ h (p - 1) := fun e => by omega
          have n3 : ¬ pos h q.2 = p := fun e => c3 ((e1 _ x2).mpr e)
          have n4 : ¬ pos h q.2 = p - 1 := fun e => n2 ((e2 _ x2).mpr e)
          rw [if_neg c3, if_neg n2]
          omega
      · have n3 : ¬ pos h q.1 = p := fun e => c1 ((e1 _ x1).mpr e)
        have n4 : ¬ pos h q.1 = p - 1 := fun e => c2 ((e2 _ x1).mpr e)
        rw [if_neg c1, if_neg c2]
        by_cases c3 : q.2 = atZ h p
        · have d3 := (e1 _ x2).mp c3
          rw [if_pos c3]
          omega
        · by_cases c4 : q.2 = atZ h (p - 1)
          · have d4 := (e2 _ x2).mp c4
            rw [if_neg c3, if_pos c4]
            omega
          · rw [if_neg c3, if_neg c4]
            omega
  · have hn : ¬ q = prAt h p := by
      rintro rfl
      exact hq ⟨b1.1, ha, b2.2⟩
    constructor
    · rintro ⟨a, b, c, _⟩; exact absurd ⟨a, b, c⟩ hq
    · rintro (⟨a, b, c, _⟩ | e)
      · exact absurd ⟨a, b, c⟩ hq
      · exact absurd e hn
abbrev plI (ns : List Int) : List Int := rngI 1 (ns.length - 1)
/-- the places where one may go up towards o -/
def stI (h o : List Int) : List Int := (plI h).filter fun p => decide (atZ h (p - 1) < atZ h p) && decide (prAt h p ∈ tuI o)
theorem mem_stI {h o : List Int} {p : Int} : p ∈ stI h o ↔ 1 ≤ p ∧ p < h.length ∧ atZ h (p - 1) < atZ h p ∧ prAt h p ∈ tuI o := by
  unfold stI
  rw [List.mem_filter, rngI_mem, Bool.and_eq_true, decide_eq_true_eq, decide_eq_true_eq]
  constructor
  · rintro ⟨⟨a, b⟩, c, d⟩; exact ⟨a, by omega, c, d⟩
  · rintro ⟨a, b, c, d⟩; exact ⟨⟨a, by omega⟩, c, d⟩
theorem ext_atZ {h o : List Int} (hl : h.length = o.length) (e : ∀ i : Int, 0 ≤ i → i < h.length → atZ h i = atZ o i) : h = o := by
  refine List.ext_getElem hl fun j h1 h2 => ?_
  have := e (j : Int) (by omega) (by omega)
  unfold atZ at this
  rw [Int.toNat_natCast] at this
  simpa [List.getD, h1, h2] using this
theorem st_ex {h o : List Int} (hh : IsRow h) (ho : IsRow o) (hl : h.length = o.length) (hb : ∀ q ∈ tuI h, q ∈ tuI o) (hne : h ≠ o) : stI h o ≠ [] := by
  intro hs
  refine hne (ext_atZ hl ?_)
  have memO : ∀ i : Int, 0 ≤ i → i < h.length → atZ h i ∈ o := fun i i0 i1 => by
    have m := hh.mem _ (atZ_mem (r := h) i0 i1)
    exact ho.all m.1 (by omega)
  -- from place to place higher in o
  have up : ∀ p : Int, 1 ≤ p → p < h.length → pos o (atZ h (p - 1)) < pos o (atZ h p) := fun p p0 p1 => by
    have m1 := atZ_mem (r := h) (i := p - 1) (by omega) (by omega)
    have m2 := atZ_mem (r := h) (i := p) (by omega) p1
    have b1 := hh.mem _ m1
    have b2 := hh.mem _ m2
    by_cases c : atZ h (p - 1) < atZ h p
    · have hn : prAt h p ∉ tuI o := fun m => by
        have : p ∈ stI h o := mem_stI.mpr ⟨p0, p1, c, m⟩
        rw [hs] at this; cases this
      have ne : pos o (atZ h (p - 1)) ≠ pos o (atZ h p) := fun e => by
        have := pos_inj (memO _ (by omega) (by omega)) (memO _ (by omega) p1) e
        omega
      have : ¬ pos o (atZ h p) < pos o (atZ h (p - 1)) := fun lt => hn (mem_tuI.mpr ⟨b1.1, c, by unfold prAt; dsimp only; omega, lt⟩)
      omega
    · have ne : atZ h (p - 1) ≠ atZ h p := fun e => by
        have := atZ_inj hh (by omega) (by omega) (by omega) p1 e
        omega
      have : (atZ h p, atZ h (p - 1)) ∈ tuI h := mem_tuI.mpr ⟨b2.1, by dsimp only; omega, b1.2, by
        dsimp only
        rw [pos_atZ hh (by omega) p1, pos_atZ hh (by omega) (by omega)]; omega⟩
      exact (mem_tuI.mp (hb _ this)).2.2.2
  have lo : ∀ k : Nat, (k : Int) < h.length → (k : Int) ≤ pos o (atZ h k) := by
    intro k
    induction k with
    | zero => intro hk; exact (pos_lt (memO _ (by omega) hk)).1
    | succ k ih =>
      intro hk
      have a := ih (by omega)
      have b := up ((k + 1 : Nat) : Int) (by omega) hk
      have e : ((k + 1 : Nat) : Int) - 1 = (k : Int) := by omega
      rw [e] at b
      omega
  have hi : ∀ d : Nat, (d : Int) < h.length → pos o (atZ h ((h.length : Int) - 1 - d)) ≤ (h.length : Int) - 1 - d := by
    intro d
    induction d with
    | zero =>
      intro hd
      have := (pos_lt (memO ((h.length : Int) - 1 - ((0 : Nat) : Int)) (by omega) (by omega))).2
      omega
    | succ d ih =>
      intro hd
      have a := ih (by omega)
      have b := up ((h.length : Int) - 1 - (d : Int)) (by omega) (by omega)
      have e : (h.length : Int) - 1 - (d : Int) - 1 = (h.length : Int) - 1 - ((d + 1 : Nat) : Int) := by omega
      rw [e] at b
      omega
  intro i i0 i1
  have a := lo i.toNat (by omega)
  have b := hi ((h.length : Int) - 1 - i).toNat (by omega)
  have e1 : ((i.toNat : Nat) : Int) = i := by omega
  have e2 : (h.length : Int) - 1 - ((((h.length : Int) - 1 - i).toNat : Nat) : Int) = i := by omega
  rw [e1] at a
  rw [e2] at b
  have e : pos o (atZ h i) = i := by omega
  have := atZ_pos (memO i i0 i1)
  rw [e] at this
  exact this.symm
/-- how many pairs are turned more in o -/
def mu (h o : List Int) : Nat := ((tuI o).filter fun q => !decide (q ∈ tuI h)).length
theorem mu_step {h o : List Int} (hh : IsRow h) {p : Int} (hp : p ∈ stI h o) : mu h o = mu (swI p h) o + 1 := by
  obtain ⟨p0, p1, p2, p3⟩ := mem_stI.mp hp
  have hm : prAt h p ∈ (tuI o).filter fun q => !decide (q ∈ tuI h) := by
    rw [List.mem_filter]
    exact ⟨p3, by simp [pr_new hh p0 p1]⟩
  have hn : ((tuI o).filter fun q => !decide (q ∈ tuI h)).Nodup := (tuI_nd o).filter _
  have e : ((tuI o).filter fun q => !decide (q ∈ tuI (swI p h))) = ((tuI o).filter fun q => !decide (q ∈ tuI h)).erase (prAt h p) := by
    rw [List.Nodup.erase_eq_filter hn, List.filter_filter]
    refine List.filter_congr fun q _ => ?_
    by_cases c2 : q = prAt h p
    · subst c2
      simp [(tu_sw hh p0 p1 p2 _).mpr (.inr rfl)]
    · simp [tu_sw hh p0 p1 p2 q, c2]
  unfold mu
  rw [e, List.length_erase_of_mem hm]
  have := List.length_pos_of_mem hm
  omega
theorem mu_zero {h o : List Int} (hh : IsRow h) (ho : IsRow o) (hl : h.length = o.length) (hb : ∀ q ∈ tuI h, q ∈ tuI o) : mu h o = 0 ↔ h = o := by
  constructor
  · intro hz
    by_cases e : h = o
    · exact e
    · exfalso
      cases q : stI h o with
      | nil => exact st_ex hh ho hl hb e q
      | cons p r =>
        have := mu_step hh (p := p) (o := o) (by rw [q]; exact List.mem_cons_self)
        omega
  · rintro rfl
    unfold mu
    rw [List.length_eq_zero_iff, List.filter_eq_nil_iff]
    intro q hq
    simp [hq]
def wayI (o : List Int) : Nat → List Int → List Int
  | 0, _ => []
  | k + 1, h => match stI h o with
    | p :: _ => p :: wayI o k (swI p h)
    | [] => []
/-- a loop that goes up -/
theorem wh_way {γ : Type} {o : List Int} (ho : IsRow o) {c : Sl → M Bool} {g : Sl → M Oc} (E : List Int → List Int → γ → Sl) (hc : ∀ h f w, c (E h f w) = .ok (!decide (h = o)))
    (hg : ∀ h f w p r, IsRow h → h.length = o.length → f.length ≤ 1000 → stI h o = p :: r → ∃ w', g (E h f w) = .ok (.nx (E (swI p h) (f ++ [p]) w'))) :
    ∀ (k n : Nat) (h f : List Int) (w : γ), IsRow h → h.length = o.length → (∀ q ∈ tuI h, q ∈ tuI o) → mu h o = k → k < n → f.length + k ≤ 1000 → ∃ w', whGo c g n (E h f w) = .ok (.nx (E o (f ++ wayI o k h) w')) ∧ (wayI o k h).length = k := by
  intro k
  induction k with
  | zero =>
    intro n h f w hh hl hb hm hn hf
    have e := (mu_zero hh ho hl hb).mp hm
    subst e
    obtain ⟨m, rfl⟩ : ∃ m, n = m + 1 := ⟨n - 1, by omega⟩
    refine ⟨w, ?_, rfl⟩
    simp [whGo, hc, wayI]
  | succ k ih =>
    intro n h f w hh hl hb hm hn hf
    have ne : h ≠ o := fun e => by
      have := (mu_zero hh ho hl hb).mpr e
      omega
    obtain ⟨m, rfl⟩ : ∃ m, n = m + 1 := ⟨n - 1, by omega⟩
    cases q : stI h o with
    | nil => exact absurd q (st_ex hh ho hl hb ne)
    | cons p r =>
      have hp : p ∈ stI h o := by rw [q]; exact List.mem_cons_self
      obtain ⟨p0, p1, p2, p3⟩ := mem_stI.mp hp
      obtain ⟨w1, e1⟩ := hg h f w p r hh hl (by omega) q
      have hm' := mu_step hh hp
      obtain ⟨w2, e2, l2⟩ := ih m (swI p h) (f ++ [p]) w1 (isRow_sw hh p0 p1) ((len_sw p0 p1).trans hl) (fun t ht => by
        rcases (tu_sw hh p0 p1 p2 t).mp ht with ht | rfl
        · exact hb t ht
        · exact p3) (by omega) (by omega) (by rw [List.length_append, List.length_singleton]; omega)
      refine ⟨w2, ?_, by simp [wayI, q, l2]⟩
      have d : decide (h = o) = false := decide_eq_false ne
      simp [whGo, hc, d, e1, e2, wayI, q]
end Vs
end
section
namespace Vs
open PySem PySem.Spec PyProof.Rows L2
theorem exch_ok {ns : List Int} (hz : ns.length ≤ 1000) {p : Int} (h0 : 1 ≤ p) (h1 : p < ns.length) : m_exchanged [.d (LI ns), .d (.int p)] = .ok (.l true ((swI p ns).map PyData.int)) := by
  refine runM_ret [some (.d (LI ns)), some (.d (.int p))] rfl ?_
  have e1 := cut_to (ns.map PyData.int) (n := (p - 1).toNat) (by simp; omega)
  have e2 := cut_from (ns.map PyData.int) (n := (p + 1).toNat) (by simp; omega)
  rw [Int.toNat_of_nonneg (by omega)] at e1 e2
  have i1 : ix2 (.d (LI ns)) (.d (.int p)) = .ok (.d (.int (ns.getD p.toNat 0))) := by
    obtain ⟨v, e, _, g⟩ := atI_lt (ns := ns) (i := p) (by omega) h1
    rw [ix2_d (atI_map e), List.getD, g]; rfl
  have i2 : ix2 (.d (LI ns)) (.d (.int (p - 1))) = .ok (.d (.int (ns.getD (p - 1).toNat 0))) := by
    obtain ⟨v, e, _, g⟩ := atI_lt (ns := ns) (i := p - 1) (by omega) (by omega)
    rw [ix2_d (atI_map e), List.getD, g]; rfl
  unfold g_exchanged
  simp only [sRet_eq, rE_eq, eOp_eq, eSl_eq, eVar_0, eVar_s, bind_ok, oNone_eq, oSome_eq, eC_eq, oSub_i, oAdd_i, ti_eq, sl3_d, eL_eq, dCons_eq, dNil_eq, i1, i2, dat_d, mkL_2, e1, e2]
  rw [oAdd_ll, mkL_ok (le_big (by simp; omega)), bind_ok, oAdd_ll, mkL_ok (le_big (by simp; omega))]
  rw [bind_ok, alias_lt]
  simp [swI]
end Vs
end
section
namespace Vs
open PySem PySem.Spec PyProof.Rows L2
/-- a loop that goes on with one thing -/
theorem forGo_fold1 {α σ γ : Type} {fG : PD → Sl → M Sl} {g : Sl → M Oc} (enc : α → PD) (step : σ → α → σ) (E : σ → γ → Sl) (Inv : σ → Prop) : ∀ (xs : List α) (s : σ) (w : γ), Inv s →
    (∀ x ∈ xs, ∀ s w, Inv s → Inv (step s x) ∧ ∃ e1 w', fG (enc x) (E s w) = .ok e1 ∧ g e1 = .ok (.nx (E (step s x) w'))) → Inv (xs.foldl step s) ∧ ∃ w', forGo fG g (xs.map enc) (E s w) = .ok (.nx (E (xs.foldl step s) w'))
  | [], s, w, h0, _ => ⟨h0, w, rfl⟩
  | x :: xs, s, w, h0, h => by
    obtain ⟨i1, e1, w1, h1, h2⟩ := h x List.mem_cons_self s w h0
    obtain ⟨i2, w2, h3⟩ := forGo_fold1 enc step E Inv xs (step s x) w1 i1 fun y hy => h y (List.mem_cons_of_mem _ hy)
    refine ⟨i2, w2, ?_⟩
    simp only [List.map_cons, forGo, h1, quiet_ok, bind_ok, h2, h3, List.foldl_cons]
theorem need_many_ok {n : Nat} (h1 : 1 ≤ n) (h2 : n ≤ 12) : m_need_many [.d (.int n)] = .ok (.d .none) := by
  have a : (1 : Int) ≤ n := by omega
  have b : (n : Int) ≤ 12 := by omega
  simp [m_need_many, g_need_many, runM, startS, is_among_i, a, b]
theorem is_place_i (i m : Int) : m_is_place [.d (.int i), .d (.int m)] = .ok (.d (.bool (decide (1 ≤ i ∧ i ≤ m - 1)))) := by
  simp [m_is_place, g_is_place, runM, startS, is_among_i]
/-- walked by swaps -/
def wkF (h : List Int) (w : List Int) : List Int := w.foldl (fun h p => swI p h) h
/-- a row of n things -/
def Rw (n : Nat) (r : List Int) : Prop := IsRow r ∧ r.length = n
theorem Rw.sw {n : Nat} {h : List Int} {p : Int} (r : Rw n h) (h0 : 1 ≤ p) (h1 : p < (n : Int)) : Rw n (swI p h) := ⟨isRow_sw r.1 h0 (by rw [r.2]; exact h1), (len_sw h0 (by rw [r.2]; exact h1)).trans r.2⟩
theorem Rw.wk {n : Nat} : ∀ {w h : List Int}, Rw n h → (∀ p ∈ w, 1 ≤ p ∧ p < (n : Int)) → Rw n (wkF h w)
  | [], _, r, _ => r
  | p :: w, h, r, hm => Rw.wk (w := w) (h := swI p h) (r.sw (hm p List.mem_cons_self).1 (hm p List.mem_cons_self).2) fun q hq => hm q (List.mem_cons_of_mem _ hq)
theorem rw_0 {n : Nat} (h1 : 1 ≤ n) (h2 : n ≤ 12) : Rw n (rngI 1 n) := ⟨isRow_perm (List.Perm.refl _) h1 h2, rngI_len 1 n⟩
theorem lr_r {i : Nat} {n : Nat} (hn : n ≤ 12) {env : Sl} (v : eVar i env = .ok (.d (.int n))) : eLR2 (eC (.int 1)) (eOp oAdd (eVar i) (eC (.int 1))) env = .ok (.l true ((rngI 1 n).map PyData.int)) := by
  have t1 : ((n : Int) + 1 - 1).toNat = n := by omega
  have q := lrg_val (i := 1) (j := (n : Int) + 1) (by unfold lim; omega) (by unfold lim; omega) (by rw [t1]; exact le12 hn)
  rw [t1, rngD_I] at q
  simp only [eLR2_eq, eC_eq, bind_ok, eOp_eq, v, oAdd_i, ti_eq, q]
theorem sSla_ok {i : Nat} {flo fhi : Sl → M (Option Int)} {fv : Sl → M R} {env : Sl} {b : Bool} {xs ys zs : List PD} {lo hi : Option Int} (h : env[i]? = some (some (.l b xs))) (hv : fv env = .ok (.l true ys)) (hl : flo env = .ok lo) (hh : fhi env = .ok hi) (hz : cutIn xs ys lo hi = some zs) :
    sSla i flo fhi fv env = .ok (.nx (env.set i (some (.l false zs)))) := by
  have e : isL i env = true := by unfold isL; rw [h]
  unfold sSla
  rw [if_pos e, hv, bind_ok, asNew_l, bind_ok, hl, bind_ok, hh, bind_ok]
  have : slaS i ys lo hi env = .ok (env.set i (some (.l false zs))) := by
    unfold slaS
    rw [h]
    dsimp only
    rw [hz]
  rw [this]
  rfl
theorem law_walked_ok {n : Nat} (h1 : 1 ≤ n) (h2 : n ≤ 12) {w : List Int} (hw : ∀ p ∈ w, 1 ≤ p ∧ p < (n : Int)) : m_law_walked [.d (LI w), .d (.int n)] = .ok (.l true ((wkF (rngI 1 n) w).map PyData.int)) := by
  obtain ⟨hi, w', e⟩ := forGo_fold1 (fG := gN 3) (g := b1_law_walked) PyData.int (fun h p => swI p h) (fun h (o : Option R) => [some (.d (LI w)), some (.d (.int n)), some (.l false (h.map PyData.int)), o]) (Rw n) w (rngI 1 n) none (rw_0 h1 h2) (by
    intro p hp h o hr
    obtain ⟨p0, p1⟩ := hw p hp
    have hlen := hr.2
    refine ⟨hr.sw p0 p1, [some (.d (LI w)), some (.d (.int n)), some (.l false (h.map PyData.int)), some (.d (.int p))], some (.d (.int p)), by simp, ?_⟩
    have i1 : ix2 (.l false (h.map PyData.int)) (.d (.int p)) = .ok (.d (.int (h.getD p.toNat 0))) := ix2_l (atZ_at (by omega) (by omega))
    have i2 : ix2 (.l false (h.map PyData.int)) (.d (.int (p - 1))) = .ok (.d (.int (h.getD (p - 1).toNat 0))) := ix2_l (atZ_at (by omega) (by omega))
    have hc : cutIn (h.map PyData.int) [.int (h.getD p.toNat 0), .int (h.getD (p - 1).toNat 0)] (some (p - 1)) (some (p + 1)) = some ((swI p h).map PyData.int) := by
      unfold cutIn
      dsimp only
      rw [if_pos ⟨by omega, by omega, by rw [List.length_map]; omega, by rw [List.length_map]; exact le_big (by simp; omega)⟩]
      simp [swI]
    unfold b1_law_walked
    rw [sSla_ok (b := false) (xs := h.map PyData.int) (ys := [.int (h.getD p.toNat 0), .int (h.getD (p - 1).toNat 0)]) (zs := (swI p h).map PyData.int) (lo := some (p - 1)) (hi := some (p + 1)) rfl (by simp only [eL_eq, dCons_eq, dNil_eq, eOp_eq, eVar_s, eVar_0, bind_ok, eC_eq, oSub_i, i1, i2, dat_d, mkL_2]) (by simp) (by simp) hc]
    rfl)
  refine runM_ret [some (.d (LI w)), some (.d (.int n)), none, none] rfl ?_
  refine seq_nx [some (.d (LI w)), some (.d (.int n)), some (.l false ((rngI 1 n).map PyData.int)), none] (set_v (.l true ((rngI 1 n).map PyData.int)) (lr_r h2 rfl)) ?_
  refine seq_nx _ (for_v (xs := w.map PyData.int) (by simp) e) ?_
  exact ret_v (by simp; rfl)
theorem wk_app (h w v : List Int) : wkF h (w ++ v) = wkF (wkF h w) v := List.foldl_append
theorem wk_cons (h : List Int) (p : Int) (w : List Int) : wkF h (p :: w) = wkF (swI p h) w := rfl
def Vd (n : Nat) (w : List Int) : Prop := ∀ p ∈ w, 1 ≤ p ∧ p < (n : Int)
theorem Vd.app {n : Nat} {w v : List Int} : Vd n (w ++ v) ↔ Vd n w ∧ Vd n v := by
  unfold Vd
  constructor
  · intro h; exact ⟨fun p hp => h p (List.mem_append_left _ hp), fun p hp => h p (List.mem_append_right _ hp)⟩
  · rintro ⟨h1, h2⟩ p hp
    rcases List.mem_append.mp hp with hp | hp
    · exact h1 p hp
    · exact h2 p hp
theorem Vd.cons {n : Nat} {a : Int} {v : List Int} : Vd n (a :: v) ↔ (1 ≤ a ∧ a < (n : Int)) ∧ Vd n v := by
  unfold Vd
  constructor
  · intro h; exact ⟨h a List.mem_cons_self, fun p hp => h p (List.mem_cons_of_mem _ hp)⟩
  · rintro ⟨h1, h2⟩ p hp
    rcases List.mem_cons.mp hp with rfl | hp
    · exact h1
    · exact h2 p hp
theorem tu_perm {h : List Int} (hr : IsRow h) {p : Int} (h0 : 1 ≤ p) (h1 : p < h.length) (ha : atZ h (p - 1) < atZ h p) : (tuI (swI p h)).Perm (prAt h p :: tuI h) := by
  refine (List.perm_ext_iff_of_nodup (tuI_nd _) (List.nodup_cons.mpr ⟨pr_new hr h0 h1, tuI_nd _⟩)).mpr fun q => ?_
  rw [tu_sw hr h0 h1 ha, List.mem_cons]
  exact or_comm
/-- all swaps go up -/
def goUpA : List Int → List Int → Prop
  | [], _ => True
  | p :: w, h => atZ h (p - 1) < atZ h p ∧ goUpA w (swI p h)
def goUp (h w : List Int) : Prop := goUpA w h
theorem goUp_len {n : Nat} : ∀ {w h : List Int}, Rw n h → Vd n w → goUp h w → (tuI (wkF h w)).length = (tuI h).length + w.length
  | [], _, _, _, _ => rfl
  | p :: w, h, hr, hv, hu => by
    obtain ⟨hp, hv⟩ := Vd.cons.mp hv
    have h1 : p < h.length := by rw [hr.2]; exact hp.2
    have := goUp_len (w := w) (hr.sw hp.1 hp.2) hv hu.2
    rw [wk_cons, this, (tu_perm hr.1 hp.1 h1 hu.1).length_eq, List.length_cons, List.length_cons]
    omega
theorem atZ_rng {n : Nat} {i : Int} (i0 : 0 ≤ i) (i1 : i < (n : Int)) : atZ (rngI 1 n) i = i + 1 := by
  unfold atZ rngI
  have : i.toNat < n := by omega
  rw [List.getD, List.getElem?_map, List.getElem?_range this]
  show (1 : Int) + (i.toNat : Int) = _
  omega
theorem tu_rng {n : Nat} (h1 : 1 ≤ n) (h2 : n ≤ 12) : tuI (rngI 1 n) = [] := by
  have hr := (rw_0 h1 h2).1
  refine List.eq_nil_iff_forall_not_mem.mpr fun p hp => ?_
  obtain ⟨p1, p2, p3, p4⟩ := mem_tuI.mp hp
  rw [rngI_len] at p3
  have e : ∀ x : Int, 1 ≤ x → x ≤ n → pos (rngI 1 n) x = x - 1 := fun x a b => pos_of hr (by omega) (by rw [rngI_len]; omega) (by rw [atZ_rng (by omega) (by omega)]; omega)
  rw [e _ (by omega) p3, e _ p1 (by omega)] at p4
  omega
theorem first_row_ok {n : Nat} (h1 : 1 ≤ n) (h2 : n ≤ 12) : m_first_row [.d (.int n)] = .ok (.l true ((rngI 1 n).map PyData.int)) := by
  refine runM_ret [some (.d (.int n))] rfl (seq_nx [some (.d (.int n))] ?_ (ret_v (rE_v (lr_r h2 rfl))))
  simp [need_many_ok h1 h2]
theorem goes_loop {n : Nat} (h2 : n ≤ 12) (z0 z1 : Option R) : ∀ (w h : List Int) (o : Option R), Rw n h → Vd n w →
    (goUp h w → ∃ o', forGo (gN 3) b1_goes_up (w.map PyData.int) [z0, z1, some (.l false (h.map PyData.int)), o] = .ok (.nx [z0, z1, some (.l false ((wkF h w).map PyData.int)), o'])) ∧
    (¬ goUp h w → forGo (gN 3) b1_goes_up (w.map PyData.int) [z0, z1, some (.l false (h.map PyData.int)), o] = .ok (.ret (.d (.bool false)))) := by
  intro w
  induction w with
  | nil => exact fun h o _ _ => ⟨fun _ => ⟨o, rfl⟩, fun z => absurd trivial z⟩
  | cons p w ih =>
    intro h o hr hv
    obtain ⟨⟨p0, p1⟩, hv⟩ := Vd.cons.mp hv
    have hlen := hr.2
    have f1 : gN 3 (.int p) [z0, z1, some (.l false (h.map PyData.int)), o] = .ok [z0, z1, some (.l false (h.map PyData.int)), some (.d (.int p))] := rfl
    have i1 : ix2 (.l false (h.map PyData.int)) (.d (.int (p - 1))) = .ok (.d (.int (atZ h (p - 1)))) := ix2_l (atZ_at (by omega) (by omega))
    have i2 : ix2 (.l false (h.map PyData.int)) (.d (.int p)) = .ok (.d (.int (atZ h p))) := ix2_l (atZ_at (by omega) (by omega))
    have ne : atZ h (p - 1) ≠ atZ h p := fun z => by
      have := atZ_inj hr.1 (i := p - 1) (j := p) (by omega) (by omega) (by omega) (by omega) z
      omega
    by_cases c : atZ h (p - 1) < atZ h p
    · have c' : ¬ atZ h p < atZ h (p - 1) := by omega
      have ex := exch_ok (ns := h) (by omega) p0 (by omega)
      have st : b1_goes_up [z0, z1, some (.l false (h.map PyData.int)), some (.d (.int p))] = .ok (.nx [z0, z1, some (.l false ((swI p h).map PyData.int)), some (.d (.int p))]) :=
        seq_nx [z0, z1, some (.l false (h.map PyData.int)), some (.d (.int p))] (if_f (by simp [i1, i2, c']) rfl) (set_v (.l true ((swI p h).map PyData.int)) (by simp [ex]))
      obtain ⟨a, b⟩ := ih (swI p h) (some (.d (.int p))) (hr.sw p0 p1) hv
      refine ⟨fun u => ?_, fun u => ?_⟩
      · obtain ⟨o', e⟩ := a u.2
        refine ⟨o', ?_⟩
        simp only [List.map_cons, forGo, f1, quiet_ok, bind_ok, st]
        exact e
      · have e := b fun z => u ⟨c, z⟩
        simp only [List.map_cons, forGo, f1, quiet_ok, bind_ok, st]
        exact e
    · have c' : atZ h p < atZ h (p - 1) := by omega
      have st : b1_goes_up [z0, z1, some (.l false (h.map PyData.int)), some (.d (.int p))] = .ok (.ret (.d (.bool false))) :=
        seq_ret (if_t (by simp [i1, i2, c']) (ret_v rfl))
      refine ⟨fun u => absurd u.1 c, fun u => ?_⟩
      simp only [List.map_cons, forGo, f1, quiet_ok, bind_ok, st]
theorem goes_t {n : Nat} (h1 : 1 ≤ n) (h2 : n ≤ 12) {w : List Int} (hw : Vd n w) (u : goUp (rngI 1 n) w) : m_goes_up [.d (LI w), .d (.int n)] = .ok (.d (.bool true)) := by
  obtain ⟨o', e⟩ := (goes_loop h2 (some (.d (LI w))) (some (.d (.int n))) w (rngI 1 n) none (rw_0 h1 h2) hw).1 u
  refine runM_ret [some (.d (LI w)), some (.d (.int n)), none, none] rfl ?_
  refine seq_nx [some (.d (LI w)), some (.d (.int n)), some (.l false ((rngI 1 n).map PyData.int)), none] (set_v (.l true ((rngI 1 n).map PyData.int)) (by simp [first_row_ok h1 h2])) ?_
  exact seq_nx _ (for_v (xs := w.map PyData.int) (by simp) e) (ret_v rfl)
theorem goes_f {n : Nat} (h1 : 1 ≤ n) (h2 : n ≤ 12) {w : List Int} (hw : Vd n w) (u : ¬ goUp (rngI 1 n) w) : m_goes_up [.d (LI w), .d (.int n)] = .ok (.d (.bool false)) := by
  have e := (goes_loop h2 (some (.d (LI w))) (some (.d (.int n))) w (rngI 1 n) none (rw_0 h1 h2) hw).2 u
  refine runM_ret [some (.d (LI w)), some (.d (.int n)), none, none] rfl ?_
  refine seq_nx [some (.d (LI w)), some (.d (.int n)), some (.l false ((rngI 1 n).map PyData.int)), none] (set_v (.l true ((rngI 1 n).map PyData.int)) (by simp [first_row_ok h1 h2])) ?_
  exact seq_ret (for_v (xs := w.map PyData.int) (by simp) e)
theorem sw_twice {h : List Int} {n : Nat} (hr : Rw n h) {p : Int} (p0 : 1 ≤ p) (p1 : p < (n : Int)) : swI p (swI p h) = h := sw_sw p0 (by rw [hr.2]; exact p1)
theorem tu_le {n : Nat} : ∀ {w h : List Int}, Rw n h → Vd n w → (tuI (wkF h w)).length ≤ (tuI h).length + w.length ∧ (¬ goUp h w → (tuI (wkF h w)).length < (tuI h).length + w.length)
  | [], h, _, _ => ⟨Nat.le_refl _, fun z => absurd trivial z⟩
  | p :: w, h, hr, hv => by
    obtain ⟨hp, hv⟩ := Vd.cons.mp hv
    have hlen := hr.2
    have h1 : p < h.length := by omega
    have hs := hr.sw hp.1 hp.2
    obtain ⟨a, b⟩ := tu_le (w := w) hs hv
    rw [wk_cons, List.length_cons]
    by_cases c : atZ h (p - 1) < atZ h p
    · have e := (tu_perm hr.1 hp.1 h1 c).length_eq
      rw [List.length_cons] at e
      refine ⟨by omega, fun z => ?_⟩
      have := b fun u => z ⟨c, u⟩
      omega
    · have ne : atZ h (p - 1) ≠ atZ h p := fun z => by
        have := atZ_inj hr.1 (i := p - 1) (j := p) (by omega) (by omega) (by omega) (by omega) z
        omega
      have hs2 := sw_twice hr hp.1 hp.2
      have up : atZ (swI p h) (p - 1) < atZ (swI p h) p := by
        obtain ⟨l, x, y, r, e, el⟩ := sw_cut (ns := h) (p := p) hp.1 h1
        subst e
        rw [sw_at l x y r el]
        have g1 : ∀ (u v : Int), atZ (l ++ u :: v :: r) (p - 1) = u := fun u v => by
          have : (p - 1).toNat = l.length := by omega
          unfold atZ; rw [this]; simp [List.getD_eq_getElem?_getD]
        have g2 : ∀ (u v : Int), atZ (l ++ u :: v :: r) p = v := fun u v => by
          have : p.toNat = l.length + 1 := by omega
          unfold atZ; rw [this]; simp [List.getD_eq_getElem?_getD]
        rw [g1, g2]
        rw [g1, g2] at c ne
        omega
      have e := (tu_perm hs.1 hp.1 (by rw [hs.2]; exact hp.2) up).length_eq
      rw [hs2, List.length_cons] at e
      exact ⟨by omega, fun _ => by omega⟩
theorem short_iff {n : Nat} (h1 : 1 ≤ n) (h2 : n ≤ 12) {w : List Int} (hw : Vd n w) : goUp (rngI 1 n) w ↔ w.length = (tuI (wkF (rngI 1 n) w)).length := by
  have r0 := rw_0 h1 h2
  have t0 : (tuI (rngI 1 n)).length = 0 := by rw [tu_rng h1 h2]; rfl
  constructor
  · intro u
    have := goUp_len r0 hw u
    omega
  · intro e
    by_cases u : goUp (rngI 1 n) w
    · exact u
    · have := (tu_le r0 hw).2 u
      omega
def okD (d : PD) : Bool := match d with
  | .dict (_ :: _) => false
  | _ => true
def amD (d : PD) (lo hi : Int) : Bool := match d with
  | .int i => decide (lo ≤ i ∧ i ≤ hi)
  | _ => false
theorem among_d {d : PD} (h : okD d = true) (lo hi : Int) : m_is_among [.d d, .d (.int lo), .d (.int hi)] = .ok (.d (.bool (amD d lo hi))) := by
  cases d with
  | int i => exact is_among_i i lo hi
  | dict kvs =>
    cases kvs with
    | nil => simp [m_is_among, g_is_among, runM, startS, oIsi, tyN, isiB, tyTs, amD]
    | cons _ _ => cases h
  | _ => simp [m_is_among, g_is_among, runM, startS, oIsi, tyN, isiB, tyTs, amD]
theorem place_d {d : PD} (h : okD d = true) (n : Int) : m_is_place [.d d, .d (.int n)] = .ok (.d (.bool (amD d 1 (n - 1)))) := by
  simp [m_is_place, g_is_place, runM, startS, among_d h]
theorem mth_ok {P : Addr} {x mn : Str} {n : Nat} {m : Mo} {fs : Sl → M (List R)} {fl fl' : Fl} {e : Sl} {rs : List R} {v : PD} (hf : fs (some (.o (some P) x fl) :: e) = .ok rs) (hl : rs.length = n) (ho : nOwn rs = true) (hk : fl.lookup mn = none) (hm : m P fl rs = .ok (.d v, fl')) :
    mMth x 0 n mn m fs (some (.o (some P) x fl) :: e) = .ok (v, some (.o (some P) x fl') :: e) := by
  have h1 : isO x 0 mn (some (.o (some P) x fl) :: e) = true := by simp [isO, hk]
  unfold mMth
  rw [if_pos h1, hf]
  show mthO x 0 n mn m (some (.o (some P) x fl) :: e) rs = _
  unfold mthO
  simp [hk, hl, ho, hm, dOf]
theorem dropM_ok {f : Sl → M (PD × Sl)} {e e' : Sl} {v : PD} (h : f e = .ok (v, e')) : sDropM f e = .ok (.nx e') := by
  unfold sDropM; rw [h]; rfl
theorem setM_ok {i : Nat} {f : Sl → M (PD × Sl)} {e e' : Sl} {v : PD} (h : f e = .ok (v, e')) (hi : i < e'.length) : sSetM i f e = .ok (.nx (e'.set i (some (.d v)))) := by
  rw [sSetM_eq, h]
  show nxS (setS i (.d v) e') = _
  rw [setS_d, if_pos hi]; rfl
theorem runO_nx {n : Nat} {x : Str} {g : Sl → M Oc} {P : Addr} {fl fl' : Fl} {as : List R} {e : Sl} (h : g (startS n (.o (some P) x fl :: as)) = .ok (.nx (some (.o (some P) x fl') :: e))) : runO n x g P fl as = .ok (.d .none, fl') := by
  unfold runO; rw [h]; simp [outO, obO]
theorem runO_rs {n : Nat} {x : Str} {g : Sl → M Oc} {P : Addr} {fl fl' : Fl} {as : List R} {e : Sl} {r : R} (h : g (startS n (.o (some P) x fl :: as)) = .ok (.rs r (some (.o (some P) x fl') :: e))) : runO n x g P fl as = .ok (r, fl') := by
  unfold runO; rw [h]; simp [outO, obO]
theorem seq_rs {g1 g2 : Sl → M Oc} {e e' : Sl} {r : R} (h1 : g1 e = .ok (.rs r e')) : sSeq g1 g2 e = .ok (.rs r e') := by
  rw [sSeq_eq, h1]; rfl
theorem retS_v {f : Sl → M R} {e : Sl} {r : R} (h : f e = .ok r) : sRetS f e = .ok (.rs r e) := by
  unfold sRetS; rw [h]; rfl
theorem big_n : big = 100000 := rfl
end Vs
end
section
namespace Vs
open PySem PySem.Spec PyProof.Rows L2
/-! ## the trail's methods -/
abbrev tF (n : Nat) (w : List Int) : Fl := [("now", (wkF (rngI 1 n) w).map PyData.int), ("past", w.map PyData.int)]
abbrev tO (q : Addr) (n : Nat) (w : List Int) : R := .o (some q) "Trail" (tF n w)
theorem fst_v {x : Str} {i : Nat} {f : Str} {fe : Sl → M R} {env env' : Sl} {xs : List PD} (h : fe env = .ok (.l true xs)) (h2 : fstS x i f xs env = .ok env') : sFst x i f fe env = .ok (.nx env') := by
  unfold sFst
  rw [h]
  show nxS (fstS x i f xs env) = _
  rw [h2]
  rfl
theorem init_ok {n : Nat} (h1 : 1 ≤ n) (h2 : n ≤ 12) (q : Addr) : mo_Trail___init__ q [] [.d (.int n)] = .ok (.d .none, tF n []) := by
  refine runO_nx (e := [some (.d (.int n))]) ?_
  refine seq_nx [some (.o (some q) "Trail" [("now", (rngI 1 n).map PyData.int)]), some (.d (.int n))] (fst_v (xs := (rngI 1 n).map PyData.int) ?_ rfl) (fst_v (xs := []) rfl rfl)
  show eD 1 m_first_row (aCons (eVar 1) aNil) [some (.o (some q) "Trail" []), some (.d (.int n))] = _
  simp [first_row_ok h1 h2]
theorem now_rw {n : Nat} (h1 : 1 ≤ n) (h2 : n ≤ 12) {w : List Int} (hv : Vd n w) : Rw n (wkF (rngI 1 n) w) := (rw_0 h1 h2).wk hv
theorem len_row {n : Nat} (h1 : 1 ≤ n) (h2 : n ≤ 12) {w : List Int} (hv : Vd n w) : (wkF (rngI 1 n) w).length = n := (now_rw h1 h2 hv).2
theorem fld_now (q : Addr) (n : Nat) (w : List Int) (e : Sl) : eFld "Trail" 0 "now" (some (tO q n w) :: e) = .ok (.l false ((wkF (rngI 1 n) w).map PyData.int)) := rfl
theorem fld_past (q : Addr) (n : Nat) (w : List Int) (e : Sl) : eFld "Trail" 0 "past" (some (tO q n w) :: e) = .ok (.l false (w.map PyData.int)) := rfl
theorem fldi_now (n : Nat) (w : List Int) (e : Sl) : eFld "Trail" 0 "now" (some (.io "Trail" (tF n w)) :: e) = .ok (.d (LI (wkF (rngI 1 n) w))) := rfl
theorem fldi_past (n : Nat) (w : List Int) (e : Sl) : eFld "Trail" 0 "past" (some (.io "Trail" (tF n w)) :: e) = .ok (.d (LI w)) := rfl
/-- the test of a place, in a method -/
theorem pl_t {n : Nat} (h1 : 1 ≤ n) (h2 : n ≤ 12) {w : List Int} (hv : Vd n w) {d : PD} (hd : okD d = true) (q : Addr) : tNo (tV (eD 2 m_is_place (aCons (eVar 1) (aCons (eF (one1 oLen) (aCons (eFld "Trail" 0 "now") aNil)) aNil)))) [some (tO q n w), some (.d d)] = .ok (!amD d 1 ((n : Int) - 1)) := by
  have e1 : eF (one1 oLen) (aCons (eFld "Trail" 0 "now") aNil) [some (tO q n w), some (.d d)] = .ok (.d (.int (n : Nat))) := by
    simp only [eF_eq, aCons_eq, aNil_eq, fld_now, bind_ok, one1_eq]
    simp [len_row h1 h2 hv]
  have e2 : eD 2 m_is_place (aCons (eVar 1) (aCons (eF (one1 oLen) (aCons (eFld "Trail" 0 "now") aNil)) aNil)) [some (tO q n w), some (.d d)] = .ok (.d (.bool (amD d 1 ((n : Int) - 1)))) := by
    rw [eD_eq, aCons_eq, aCons_eq, e1]
    simp [place_d hd]
  rw [tNo_eq, tV_eq, e2]
  rfl
theorem pl_ti {n : Nat} (h1 : 1 ≤ n) (h2 : n ≤ 12) {w : List Int} (hv : Vd n w) {d : PD} (hd : okD d = true) : tNo (tV (eD 2 m_is_place (aCons (eVar 1) (aCons (eF (one1 oLen) (aCons (eFld "Trail" 0 "now") aNil)) aNil)))) [some (.io "Trail" (tF n w)), some (.d d)] = .ok (!amD d 1 ((n : Int) - 1)) := by
  have e1 : eF (one1 oLen) (aCons (eFld "Trail" 0 "now") aNil) [some (.io "Trail" (tF n w)), some (.d d)] = .ok (.d (.int (n : Nat))) := by
    simp only [eF_eq, aCons_eq, aNil_eq, fldi_now, bind_ok, one1_eq]
    simp [len_row h1 h2 hv]
  have e2 : eD 2 m_is_place (aCons (eVar 1) (aCons (eF (one1 oLen) (aCons (eFld "Trail" 0 "now") aNil)) aNil)) [some (.io "Trail" (tF n w)), some (.d d)] = .ok (.d (.bool (amD d 1 ((n : Int) - 1)))) := by
    rw [eD_eq, aCons_eq, aCons_eq, e1]
    simp [place_d hd]
  rw [tNo_eq, tV_eq, e2]
  rfl
/-- the row exchanged -/
theorem ex_e {n : Nat} (h1 : 1 ≤ n) (h2 : n ≤ 12) {h : List Int} (hr : Rw n h) {p : Int} (p0 : 1 ≤ p) (p1 : p < (n : Int)) (q : Addr) (xs : List PD) : eD 2 m_exchanged (aCons (eFld "Trail" 0 "now") (aCons (eVar 1) aNil)) [some (.o (some q) "Trail" [("now", h.map PyData.int), ("past", xs)]), some (.d (.int p))] = .ok (.l true ((swI p h).map PyData.int)) := by
  have f : eFld "Trail" 0 "now" [some (.o (some q) "Trail" [("now", h.map PyData.int), ("past", xs)]), some (.d (.int p))] = .ok (.l false (h.map PyData.int)) := rfl
  have ex := exch_ok (ns := h) (by rw [hr.2]; omega) p0 (by rw [hr.2]; exact p1)
  have v1 : eVar 1 [some (.o (some q) "Trail" [("now", h.map PyData.int), ("past", xs)]), some (.d (.int p))] = .ok (.d (.int p)) := rfl
  rw [eD_eq, aCons_eq, f]
  simp only [bind_ok, aCons_eq, v1, aNil_eq, argL_cons, arg_l, arg_d, argL_nil, List.length_cons, List.length_nil, if_true, List.any_cons, alias_lf, Bool.true_or, ex, immO_li]
theorem wk_snoc (h w : List Int) (p : Int) : wkF h (w ++ [p]) = swI p (wkF h w) := by rw [wk_app]; rfl
theorem swap_ok {n : Nat} (h1 : 1 ≤ n) (h2 : n ≤ 12) {w : List Int} (hv : Vd n w) (hl : w.length < 1000) {p : Int} (p0 : 1 ≤ p) (p1 : p < (n : Int)) (q : Addr) : mo_Trail_swap q (tF n w) [.d (.int p)] = .ok (.d .none, tF n (w ++ [p])) := by
  have a : amD (.int p) 1 ((n : Int) - 1) = true := decide_eq_true ⟨p0, by omega⟩
  refine runO_nx (e := [some (.d (.int p))]) ?_
  refine seq_nx [some (tO q n w), some (.d (.int p))] (if_f ((pl_t h1 h2 hv rfl q).trans (by rw [a]; rfl)) rfl) ?_
  refine seq_nx [some (.o (some q) "Trail" [("now", (wkF (rngI 1 n) (w ++ [p])).map PyData.int), ("past", w.map PyData.int)]), some (.d (.int p))] (fst_v (ex_e h1 h2 (now_rw h1 h2 hv) p0 p1 q _) (by rw [wk_snoc]; rfl)) ?_
  have hd' : (w.map PyData.int).length < big := by rw [List.length_map, big_n]; omega
  have e3 : sFm "Trail" 0 "past" (dCons (eVar 1) dNil) opApp [some (.o (some q) "Trail" [("now", (wkF (rngI 1 n) (w ++ [p])).map PyData.int), ("past", w.map PyData.int)]), some (.d (.int p))] = (match opApp (w.map PyData.int) [.int p] with
    | some ys => .ok (.nx (putS 0 "past" ys [some (.o (some q) "Trail" [("now", (wkF (rngI 1 n) (w ++ [p])).map PyData.int), ("past", w.map PyData.int)]), some (.d (.int p))]))
    | none => .error .stuck) := rfl
  rw [e3]
  unfold opApp
  dsimp only
  rw [if_pos hd']
  have e4 : w.map PyData.int ++ [PyData.int p] = (w ++ [p]).map PyData.int := by simp
  rw [e4]
  rfl
theorem swap_bad {n : Nat} (h1 : 1 ≤ n) (h2 : n ≤ 12) {w : List Int} (hv : Vd n w) {d : PD} (hd : okD d = true) (ha : amD d 1 ((n : Int) - 1) = false) (q : Addr) : mo_Trail_swap q (tF n w) [.d d] = .error (.exc "BadPlace" none) := by
  have e : g_Trail_swap [some (tO q n w), some (.d d)] = .error (.exc "BadPlace" none) := seq_ex ((if_t ((pl_t h1 h2 hv hd q).trans (by rw [ha]; rfl)) rfl))
  show runO 2 "Trail" g_Trail_swap q (tF n w) [.d d] = _
  unfold runO
  show Except.bind (g_Trail_swap [some (tO q n w), some (.d d)]) _ = _
  rw [e]
  rfl
theorem swap_badi {n : Nat} (h1 : 1 ≤ n) (h2 : n ≤ 12) {w : List Int} (hv : Vd n w) {d : PD} (hd : okD d = true) (ha : amD d 1 ((n : Int) - 1) = false) : m_Trail_swap [.io "Trail" (tF n w), .d d] = .error (.exc "BadPlace" none) :=
  runM_ex [some (.io "Trail" (tF n w)), some (.d d)] rfl (seq_ex ((if_t ((pl_ti h1 h2 hv hd).trans (by rw [ha]; rfl)) rfl)))
theorem back_ok {n : Nat} (h1 : 1 ≤ n) (h2 : n ≤ 12) {w : List Int} {p : Int} (hv : Vd n w) (p0 : 1 ≤ p) (p1 : p < (n : Int)) (q : Addr) : mo_Trail_back q (tF n (w ++ [p])) [] = .ok (.d (.int p), tF n w) := by
  have hv' : Vd n (w ++ [p]) := Vd.app.mpr ⟨hv, Vd.cons.mpr ⟨⟨p0, p1⟩, fun _ h => by cases h⟩⟩
  have e4 : (w ++ [p]).map PyData.int = w.map PyData.int ++ [PyData.int p] := by simp
  refine runO_rs (e := [some (.d (.int p))]) ?_
  show g_Trail_back [some (tO q n (w ++ [p])), none] = _
  have ne : eOp (oEq false) (eFld "Trail" 0 "past") (eL dNil) [some (tO q n (w ++ [p])), none] = .ok (.d (.bool false)) := by
    rw [eOp_eq, fld_past, bind_ok]
    show oEq false (.l false ((w ++ [p]).map PyData.int)) (.l true []) = _
    rw [oEq_li (ns := w ++ [p]) (ms := []) rfl rfl]
    simp
  refine seq_nx [some (tO q n (w ++ [p])), none] (if_f (by rw [tV_eq, ne]; rfl) rfl) ?_
  refine seq_nx [some (.o (some q) "Trail" [("now", (wkF (rngI 1 n) (w ++ [p])).map PyData.int), ("past", w.map PyData.int)]), some (.d (.int p))] ?_ ?_
  · have e1 : mFpop "Trail" 0 "past" [some (tO q n (w ++ [p])), none] = .ok (.int p, [some (.o (some q) "Trail" [("now", (wkF (rngI 1 n) (w ++ [p])).map PyData.int), ("past", w.map PyData.int)]), none]) := by
      have f1 : fldS "Trail" 0 "past" [some (tO q n (w ++ [p])), none] = some ((w ++ [p]).map PyData.int) := rfl
      unfold mFpop
      rw [f1]
      dsimp only
      rw [e4]
      have g1 : (w.map PyData.int ++ [PyData.int p])[(w.map PyData.int ++ [PyData.int p]).length - 1]? = some (.int p) := by simp
      rw [g1]
      dsimp only
      rw [List.dropLast_concat]
      rfl
    exact setM_ok e1 (by simp)
  · refine seq_nx [some (tO q n w), some (.d (.int p))] (fst_v (ex_e h1 h2 (now_rw h1 h2 hv') p0 p1 q _) ?_) ?_
    · rw [wk_snoc, sw_twice (now_rw h1 h2 hv) p0 p1]
      rfl
    · exact retS_v rfl
theorem back_bad (n : Nat) (q : Addr) : mo_Trail_back q (tF n []) [] = .error (.exc "NothingDone" none) := rfl
theorem back_badi (n : Nat) : m_Trail_back [.io "Trail" (tF n [])] = .error (.exc "NothingDone" none) := rfl
/-! ### read -/
theorem row_ok {n : Nat} (h1 : 1 ≤ n) (h2 : n ≤ 12) {w : List Int} (hv : Vd n w) : m_Trail_row [.io "Trail" (tF n w)] = .ok (.l true ((wkF (rngI 1 n) w).map PyData.int)) := by
  have e : g_Trail_row [some (.io "Trail" (tF n w))] = .ok (.rs (.l true ((wkF (rngI 1 n) w).map PyData.int)) [some (.io "Trail" (tF n w))]) := retS_v (by
    simp only [eF_eq, aCons_eq, aNil_eq, fldi_now, bind_ok, one1_eq]
    have := len_row h1 h2 hv
    simp [le_big (show (wkF (rngI 1 n) w).length ≤ 2000 by omega)])
  show runM 1 g_Trail_row _ = _
  unfold runM
  show Except.bind (g_Trail_row [some (.io "Trail" (tF n w))]) _ = _
  rw [e]
  rfl
end Vs
end
section
namespace Vs
open PySem PySem.Spec PyProof.Rows L2
/-! ## the trail read -/
theorem places_ok {n : Nat} {w : List Int} (hl : w.length ≤ 1000) : m_Trail_places [.io "Trail" (tF n w)] = .ok (.l true (w.map PyData.int)) := by
  have e : g_Trail_places [some (.io "Trail" (tF n w))] = .ok (.rs (.l true (w.map PyData.int)) [some (.io "Trail" (tF n w))]) := retS_v (by
    simp only [eF_eq, aCons_eq, aNil_eq, fldi_past, bind_ok, one1_eq]
    simp)
  show runM 1 g_Trail_places _ = _
  unfold runM
  show Except.bind (g_Trail_places [some (.io "Trail" (tF n w))]) _ = _
  rw [e]
  rfl
theorem short_m {n : Nat} (h1 : 1 ≤ n) (h2 : n ≤ 12) {w : List Int} (hv : Vd n w) : m_Trail_is_short [.io "Trail" (tF n w)] = .ok (.d (.bool (decide (w.length = (tuI (wkF (rngI 1 n) w)).length)))) := by
  have e2 : eF (one1 oLen) (aCons (eFld "Trail" 0 "now") aNil) [some (.io "Trail" (tF n w))] = .ok (.d (.int (n : Nat))) := by
    simp only [eF_eq, aCons_eq, aNil_eq, fldi_now, bind_ok, one1_eq]
    simp [len_row h1 h2 hv]
  have hg : m_goes_up [.d (LI w), .d (.int n)] = .ok (.d (.bool (decide (w.length = (tuI (wkF (rngI 1 n) w)).length)))) := by
    by_cases u : goUp (rngI 1 n) w
    · rw [decide_eq_true ((short_iff h1 h2 hv).mp u)]
      exact goes_t h1 h2 hv u
    · rw [decide_eq_false (fun e => u ((short_iff h1 h2 hv).mpr e))]
      exact goes_f h1 h2 hv u
  have e : g_Trail_is_short [some (.io "Trail" (tF n w))] = .ok (.rs (.d (.bool (decide (w.length = (tuI (wkF (rngI 1 n) w)).length)))) [some (.io "Trail" (tF n w))]) := retS_v (by
    rw [eD_eq, aCons_eq, fldi_past, bind_ok, aCons_eq, e2, bind_ok, aNil_eq, bind_ok, bind_ok, bind_ok]
    show Except.bind (argL [.d (LI w), .d (.int n)]) _ = _
    rw [argL_cons, arg_d, bind_ok, argL_cons, arg_d, bind_ok, argL_nil, bind_ok, bind_ok, bind_ok]
    rw [hg]
    rfl)
  show runM 1 g_Trail_is_short _ = _
  unfold runM
  show Except.bind (g_Trail_is_short [some (.io "Trail" (tF n w))]) _ = _
  rw [e]
  rfl
theorem mthR_v {x mn : Str} {i : Nat} {m : List R → M R} {env : Sl} {b : Bool} {fl : Fl} {r r' : R} (h : iO x i mn env = some (b, fl)) (hm : m [.io x fl] = .ok r) (hi : immO r = .ok r') : eMthR x i 0 mn m env = .ok r' := by
  unfold eMthR
  rw [h]
  dsimp only
  rw [if_pos rfl, hm]
  exact hi
/-! ## a deed told -/
theorem kinds_place : m_law_kinds [.e "BadPlace" none] = .ok (.l true [.str "place"]) := by kernel_rfl
theorem kinds_nothing : m_law_kinds [.e "NothingDone" none] = .ok (.l true [.str "nothing"]) := by kernel_rfl
theorem mIf_t {t : Sl → M Bool} {f g : Sl → M (PD × Sl)} {env : Sl} (h : t env = .ok true) : mIf t f g env = f env := by
  unfold mIf; rw [h]; rfl
theorem mIf_f {t : Sl → M Bool} {f g : Sl → M (PD × Sl)} {env : Sl} (h : t env = .ok false) : mIf t f g env = g env := by
  unfold mIf; rw [h]; rfl
theorem mthX_o {x mn : Str} {n : Nat} {m : Mo} {mr : List R → M R} {fs : Sl → M (List R)} {P : Addr} {fl fl' : Fl} {e : Sl} {rs : List R} {v : PD} (hf : fs (some (.o (some P) x fl) :: e) = .ok rs) (hl : rs.length = n) (ho : nOwn rs = true) (hk : fl.lookup mn = none) (hm : m P fl rs = .ok (.d v, fl')) :
    mMthX x 0 n mn m mr fs (some (.o (some P) x fl) :: e) = .ok (v, some (.o (some P) x fl') :: e) := by
  have h1 : isO x 0 mn (some (.o (some P) x fl) :: e) = true := by simp [isO, hk]
  unfold mMthX
  rw [if_pos h1, hf]
  show mthX x 0 n mn m mr (some (.o (some P) x fl) :: e) rs = _
  unfold mthX
  simp [hk, hl, ho, hm, dOf]
theorem mthX_e {x mn z : Str} {n : Nat} {m : Mo} {mr : List R → M R} {fs : Sl → M (List R)} {P : Addr} {fl : Fl} {e : Sl} {rs : List R} {er : Er} (hf : fs (some (.o (some P) x fl) :: e) = .ok rs) (hl : rs.length = n) (ho : nOwn rs = true) (hk : fl.lookup mn = none) (hm : m P fl rs = .error er) (hr : mr (.io x fl :: rs) = .error (.exc z none)) :
    mMthX x 0 n mn m mr fs (some (.o (some P) x fl) :: e) = .error (.exc z none) := by
  have h1 : isO x 0 mn (some (.o (some P) x fl) :: e) = true := by simp [isO, hk]
  unfold mMthX
  rw [if_pos h1, hf]
  show mthX x 0 n mn m mr (some (.o (some P) x fl) :: e) rs = _
  unfold mthX
  simp [hk, hl, ho, hm, hr]
theorem sTryM_o {names : List Str} {j i k : Nat} {f : Sl → M (PD × Sl)} {env env' : Sl} {v : PD} (h : f env = .ok (v, env')) : sTryM names j i k f env = nxS (setS j (.d v) env') := by
  unfold sTryM; rw [h]
theorem sTryM_e {names : List Str} {j i k : Nat} {f : Sl → M (PD × Sl)} {env : Sl} {z : Str} (h : f env = .error (.exc z none)) (hz : z ∈ names ∧ i < env.length ∧ k < env.length ∧ i ≠ k) : sTryM names j i k f env = .ok (.nx (((env.set i none).set k (some (.e z none))).set i none)) := by
  unfold sTryM; rw [h]; dsimp only; rw [if_pos hz]
theorem oEq_str (neg : Bool) (a b : Str) (ha : PyData.strOk a = true) (hb : PyData.strOk b = true) : oEq neg (.d (.str a)) (.d (.str b)) = .ok (.d (.bool (xor neg (decide (a = b))))) := by
  unfold oEq
  simp only [view_d]
  rw [if_pos ⟨by simp [SeqAt.shaped, PyData.canLay0, PyData.depth, ha], by simp [SeqAt.shaped, PyData.canLay0, PyData.depth, hb]⟩]
  simp [PyData.eqv, Bool.beq_eq_decide_eq]
abbrev tryE (t : Option R) (a b : PD) (r h : R) : Sl := [t, some (.d a), some (.d b), some r, some h, none]
abbrev tryG : Sl → M (PD × Sl) := mIf (tV (eOp (oEq false) (eVar 1) (eC (.str "back")))) (mMthX "Trail" 0 0 "back" mo_Trail_back m_Trail_back aNil) (mMthX "Trail" 0 1 "swap" mo_Trail_swap m_Trail_swap (aCons (eVar 2) aNil))
theorem told_go {q : Addr} {fl fl' : Fl} {a b : PD} {v : PD} (h : tryG (tryE (some (.o (some q) "Trail" fl)) a b (.d .none) (.d .none)) = .ok (v, tryE (some (.o (some q) "Trail" fl')) a b (.d .none) (.d .none))) :
    mo_law_told q fl [.d a, .d b] = .ok (.d (.list [.str "told", v]), fl') := by
  refine runO_rs (e := [some (.d a), some (.d b), some (.d .none), some (.d v), none]) ?_
  show g_law_told [some (.o (some q) "Trail" fl), some (.d a), some (.d b), none, none, none] = _
  refine seq_nx [some (.o (some q) "Trail" fl), some (.d a), some (.d b), some (.d .none), none, none] rfl (seq_nx (tryE (some (.o (some q) "Trail" fl)) a b (.d .none) (.d .none)) rfl (seq_nx (tryE (some (.o (some q) "Trail" fl')) a b (.d .none) (.d v)) ?_ (retS_v rfl)))
  exact sTryM_o h
theorem told_no {q : Addr} {fl : Fl} {a b : PD} {z : Str} {k : PD} (hz : z ∈ exN) (hk : m_law_kinds [.e z none] = .ok (.l true [k])) (hi : imm k = true) (h : tryG (tryE (some (.o (some q) "Trail" fl)) a b (.d .none) (.d .none)) = .error (.exc z none)) :
    mo_law_told q fl [.d a, .d b] = .ok (.d (.list [k]), fl) := by
  refine runO_rs (e := [some (.d a), some (.d b), some (.e z none), some (.d .none), none]) ?_
  show g_law_told [some (.o (some q) "Trail" fl), some (.d a), some (.d b), none, none, none] = _
  refine seq_nx [some (.o (some q) "Trail" fl), some (.d a), some (.d b), some (.d .none), none, none] rfl (seq_nx (tryE (some (.o (some q) "Trail" fl)) a b (.d .none) (.d .none)) rfl (seq_nx (tryE (some (.o (some q) "Trail" fl)) a b (.e z none) (.d .none)) ?_ (retS_v ?_)))
  · exact sTryM_e h ⟨hz, by simp, by simp, by decide⟩
  · have c : tV (eOp (oIsN false) (eVar 3) (eC .none)) (tryE (some (.o (some q) "Trail" fl)) a b (.e z none) (.d .none)) = .ok false := rfl
    have e1 : eD 1 m_law_kinds (aCons (eVar 3) aNil) (tryE (some (.o (some q) "Trail" fl)) a b (.e z none) (.d .none)) = .ok (.l true [k]) := by
      exact call_v (rs := [.e z none]) (as := [.e z none]) rfl rfl hk rfl (fun h => by cases h)
    unfold eGood
    rw [eIf_eq, c, bind_ok]
    show Except.bind (eD 1 m_law_kinds (aCons (eVar 3) aNil) _) goodO = _
    rw [e1]
    rfl
theorem back_t (b : PD) (t : Option R) (r h : R) : tV (eOp (oEq false) (eVar 1) (eC (.str "back"))) (tryE t (.str "back") b r h) = .ok true := by
  have e := oEq_str false "back" "back" (by decide +kernel) (by decide +kernel)
  rw [tV_eq, eOp_eq]
  show Except.bind (oEq false (.d (.str "back")) (.d (.str "back"))) bo = _
  rw [e]
  simp
theorem back_f (b : PD) (t : Option R) (r h : R) : tV (eOp (oEq false) (eVar 1) (eC (.str "back"))) (tryE t (.str "swap") b r h) = .ok false := by
  have e := oEq_str false "swap" "back" (by decide +kernel) (by decide +kernel)
  rw [tV_eq, eOp_eq]
  show Except.bind (oEq false (.d (.str "swap")) (.d (.str "back"))) bo = _
  rw [e, decide_eq_false (by decide +kernel)]
  rfl
theorem lk_back (n : Nat) (w : List Int) : (tF n w).lookup ("back" : Str) = none := rfl
theorem lk_swap (n : Nat) (w : List Int) : (tF n w).lookup ("swap" : Str) = none := rfl
theorem told_swap {n : Nat} (h1 : 1 ≤ n) (h2 : n ≤ 12) {w : List Int} (hv : Vd n w) (hl : w.length < 1000) {p : Int} (p0 : 1 ≤ p) (p1 : p < (n : Int)) (q : Addr) : mo_law_told q (tF n w) [.d (.str "swap"), .d (.int p)] = .ok (.d (.list [.str "told", .none]), tF n (w ++ [p])) :=
  told_go ((mIf_f (back_f _ _ _ _)).trans (mthX_o (rs := [.d (.int p)]) rfl rfl rfl (lk_swap n w) (swap_ok h1 h2 hv hl p0 p1 q)))
theorem told_back {n : Nat} (h1 : 1 ≤ n) (h2 : n ≤ 12) {w : List Int} {p : Int} (hv : Vd n w) (p0 : 1 ≤ p) (p1 : p < (n : Int)) (q : Addr) : mo_law_told q (tF n (w ++ [p])) [.d (.str "back"), .d .none] = .ok (.d (.list [.str "told", .int p]), tF n w) :=
  told_go ((mIf_t (back_t _ _ _ _)).trans (mthX_o (rs := []) rfl rfl rfl (lk_back n _) (back_ok h1 h2 hv p0 p1 q)))
theorem told_bad {n : Nat} (h1 : 1 ≤ n) (h2 : n ≤ 12) {w : List Int} (hv : Vd n w) {d : PD} (hd : okD d = true) (ha : amD d 1 ((n : Int) - 1) = false) (q : Addr) : mo_law_told q (tF n w) [.d (.str "swap"), .d d] = .ok (.d (.list [.str "place"]), tF n w) :=
  told_no (z := "BadPlace") (by decide +kernel) kinds_place rfl ((mIf_f (back_f _ _ _ _)).trans (mthX_e (rs := [.d d]) rfl rfl rfl (lk_swap n w) (swap_bad h1 h2 hv hd ha q) (swap_badi h1 h2 hv hd ha)))
theorem told_none (n : Nat) (q : Addr) : mo_law_told q (tF n []) [.d (.str "back"), .d .none] = .ok (.d (.list [.str "nothing"]), tF n []) :=
  told_no (z := "NothingDone") (by decide +kernel) kinds_nothing rfl ((mIf_t (back_t _ _ _ _)).trans (mthX_e (rs := []) rfl rfl rfl (lk_back n _) (back_bad n q) (back_badi n)))
end Vs
end
section
namespace Vs
open PySem PySem.Spec PyProof.Rows L2
/-! ## what a trail tells -/
abbrev r7 (n : Nat) (w : List Int) (o3 o4 o5 o6 : Option R) : Sl := [some (.io "Trail" (tF n w)), some (.d (LI w)), some (.d (.int n)), o3, o4, o5, o6]
theorem app_v {i : Nat} {e : Sl} {b : Bool} {xs : List PD} {x : PD} {f : Sl → M (PD × Sl)} (hf : f e = .ok (x, e)) (h : e[i]? = some (some (.l b xs))) (hz : xs.length < big) : sApp i f e = .ok (.nx (e.set i (some (.l false (xs ++ [x]))))) := by
  rw [sApp_l h, hf]
  show nxS (appS i x e) = _
  unfold appS
  rw [h]
  dsimp only
  rw [if_pos hz]
  rfl
theorem isl_v {i j : Nat} {e : Sl} {ns : List Int} {a b : R} (hi : eVar i e = .ok a) (hj : eVar j e = .ok b) (ha : argL [a, b] = .ok [.d (LI ns), .d (LI ns)]) : tNo (tV (eD 2 m_law_is_list (aCons (eVar i) (aCons (eVar j) aNil)))) e = .ok false := by
  have e1 : aCons (eVar i) (aCons (eVar j) aNil) e = .ok [a, b] := by
    rw [aCons_eq, hi, bind_ok, aCons_eq, hj]
    rfl
  have hm := is_list_i ns ns
  rw [decide_eq_true rfl] at hm
  have e2 : eD 2 m_law_is_list (aCons (eVar i) (aCons (eVar j) aNil)) e = .ok (.d (.bool true)) := call_v e1 ha hm rfl fun _ => rfl
  rw [tNo_eq, tV_eq, e2]
  rfl
theorem right_body {n : Nat} (h1 : 1 ≤ n) (h2 : n ≤ 12) {w : List Int} (hv : Vd n w) (hl : w.length ≤ 1000) (o4 o5 o6 : Option R) : ∃ p5 p6, b1_law_right (r7 n w (some (.l false ((wkF (rngI 1 n) w).map PyData.int))) o4 o5 o6) = .ok (.nx (r7 n w (some (.l false ((wkF (rngI 1 n) w).map PyData.int))) o4 p5 p6)) := by
  have rl := len_row h1 h2 hv
  have ro := row_ok h1 h2 hv
  have pl := places_ok (n := n) (w := w) hl
  refine ⟨some (.l false ((wkF (rngI 1 n) w).map PyData.int ++ [.int 0])), some (.l false (w.map PyData.int ++ [.int 0])), ?_⟩
  have hr : ((wkF (rngI 1 n) w).map PyData.int).length < big := by rw [List.length_map, big_n]; omega
  have hw : (w.map PyData.int).length < big := by rw [List.length_map, big_n]; omega
  have m1 : ∀ o4 o5 o6, eMthR "Trail" 0 0 "row" m_Trail_row (r7 n w (some (.l false ((wkF (rngI 1 n) w).map PyData.int))) o4 o5 o6) = .ok (.l true ((wkF (rngI 1 n) w).map PyData.int)) := fun o4 o5 o6 => mthR_v (b := false) rfl ro (immO_li _ _)
  have m2 : ∀ o4 o5 o6, eMthR "Trail" 0 0 "places" m_Trail_places (r7 n w (some (.l false ((wkF (rngI 1 n) w).map PyData.int))) o4 o5 o6) = .ok (.l true (w.map PyData.int)) := fun o4 o5 o6 => mthR_v (b := false) rfl pl (immO_li _ _)
  generalize wkF (rngI 1 n) w = row at *
  refine seq_nx (r7 n w (some (.l false (row.map PyData.int))) o4 (some (.l false (row.map PyData.int))) o6) (set_v (.l true (row.map PyData.int)) (m1 _ _ _)) ?_
  refine seq_nx (r7 n w (some (.l false (row.map PyData.int))) o4 (some (.l false (row.map PyData.int))) (some (.l false (w.map PyData.int)))) (set_v (.l true (w.map PyData.int)) (m2 _ _ _)) ?_
  refine seq_nx (r7 n w (some (.l false (row.map PyData.int))) o4 (some (.l false (row.map PyData.int))) (some (.l false (w.map PyData.int)))) (if_f ?_ rfl) ?_
  · rw [tOrr_eq, isl_v (ns := row) rfl rfl rfl]
    show tNo (tV (eD 2 m_law_is_list (aCons (eVar 6) (aCons (eVar 1) aNil)))) _ = _
    exact isl_v (ns := w) rfl rfl rfl
  · exact seq_nx (r7 n w (some (.l false (row.map PyData.int))) o4 (some (.l false (row.map PyData.int ++ [.int 0]))) (some (.l false (w.map PyData.int)))) (app_v rfl rfl hr) (app_v rfl rfl hw)
theorem right_ok {n : Nat} (h1 : 1 ≤ n) (h2 : n ≤ 12) {w : List Int} (hv : Vd n w) (hl : w.length ≤ 1000) : m_law_right [.io "Trail" (tF n w), .d (LI w), .d (.int n)] = .ok (.d (.bool true)) := by
  have lw := law_walked_ok h1 h2 (w := w) hv
  have sh := short_m h1 h2 hv
  have lt := law_turned_ok (now_rw h1 h2 hv).1
  obtain ⟨env, ef, x4, x5, x6, rfl⟩ := forGo_rng (fG := gN 4) (g := b1_law_right) (lo := 0) (n := 2)
    (fun _ env => ∃ o4 o5 o6, env = r7 n w (some (.l false ((wkF (rngI 1 n) w).map PyData.int))) o4 o5 o6) (r7 n w (some (.l false ((wkF (rngI 1 n) w).map PyData.int))) none none none) ⟨_, _, _, rfl⟩ (by
      rintro i env hi ⟨o4, o5, o6, rfl⟩
      obtain ⟨p5, p6, e⟩ := right_body h1 h2 hv hl (some (.d (.int (0 + (i : Int))))) o5 o6
      exact ⟨_, _, rfl, .inl e, _, _, _, rfl⟩)
  have r2 : ∀ env, iR1 (aCons (eC (.int 2)) aNil) env = .ok (rngD 0 2) := fun env => by
    show rg1 [2] = _
    exact rg1_ok (by unfold lim; omega)
  refine runM_ret (r7 n w none none none none) rfl (seq_nx (r7 n w (some (.l false ((wkF (rngI 1 n) w).map PyData.int))) none none none) (set_v (.l true ((wkF (rngI 1 n) w).map PyData.int)) (call_v (rs := [.d (LI w), .d (.int n)]) rfl rfl lw)) (seq_nx _ (for_v (xs := rngD 0 2) (r2 _) ef) (ret_v (rE_v ?_))))
  generalize hrow : wkF (rngI 1 n) w = row at *
  have s1 : eF (one1 oRepB) (aCons (eMthR "Trail" 0 0 "is_short" m_Trail_is_short) aNil) (r7 n w (some (.l false (row.map PyData.int))) x4 x5 x6) = .ok (.d (.str (if decide (w.length = (tuI row).length) = true then "True" else "False"))) := by
    have e0 : eMthR "Trail" 0 0 "is_short" m_Trail_is_short (r7 n w (some (.l false (row.map PyData.int))) x4 x5 x6) = .ok (.d (.bool (decide (w.length = (tuI row).length)))) := mthR_v (b := false) rfl sh rfl
    rw [eF_eq, aCons_eq, e0]
    rfl
  have s2 : eF (one1 oRepB) (aCons (eOp (oEq false) (eF (one1 oLen) (aCons (eVar 1) aNil)) (eF (one1 oLen) (aCons (eD 1 m_law_turned (aCons (eVar 3) aNil)) aNil))) aNil) (r7 n w (some (.l false (row.map PyData.int))) x4 x5 x6) = .ok (.d (.str (if decide (w.length = (tuI row).length) = true then "True" else "False"))) := by
    have e0 : eD 1 m_law_turned (aCons (eVar 3) aNil) (r7 n w (some (.l false (row.map PyData.int))) x4 x5 x6) = .ok (.l true ((tuI row).map prD)) := call_v (rs := [.l false (row.map PyData.int)]) (as := [.d (LI row)]) rfl rfl lt rfl fun _ => immO_lp _ _
    have e1 : eF (one1 oLen) (aCons (eD 1 m_law_turned (aCons (eVar 3) aNil)) aNil) (r7 n w (some (.l false (row.map PyData.int))) x4 x5 x6) = .ok (.d (.int (tuI row).length)) := by
      rw [eF_eq, aCons_eq, e0]
      simp
    have e2 : eF (one1 oLen) (aCons (eVar 1) aNil) (r7 n w (some (.l false (row.map PyData.int))) x4 x5 x6) = .ok (.d (.int w.length)) := by simp
    rw [eF_eq, aCons_eq, eOp_eq, e2, bind_ok, e1, bind_ok, oEq_i, bind_ok]
    simp only [Bool.false_xor, Int.ofNat_inj]
    rfl
  have so : PyData.strOk (if decide (w.length = (tuI row).length) = true then ("True" : Str) else "False") = true := by
    split <;> decide +kernel
  have qs := oEq_str false _ _ so so
  rw [eOp_eq, s1, bind_ok, s2, bind_ok, qs]
  simp
end Vs
end
section
namespace Vs
open PySem PySem.Spec PyProof.Rows L2
/-! ## a trail of more swaps than a word has places -/
abbrev l9 (ns : List Int) (n : Nat) (q : Addr) (w : List Int) (o3 o4 o5 o6 o7 o8 : Option R) : Sl := [some (.s ns), some (.d (.int n)), some (tO q n w), o3, o4, o5, o6, o7, o8]
theorem mth_at {i : Nat} {P : Addr} {x mn : Str} {n : Nat} {m : Mo} {fs : Sl → M (List R)} {fl fl' : Fl} {e : Sl} {rs : List R} {v : PD} (h : e[i]? = some (some (.o (some P) x fl))) (hf : fs e = .ok rs) (hl : rs.length = n) (ho : nOwn rs = true) (hk : fl.lookup mn = none) (hm : m P fl rs = .ok (.d v, fl')) :
    mMth x i n mn m fs e = .ok (v, e.set i (some (.o (some P) x fl'))) := by
  have h1 : isO x i mn e = true := by simp [isO, h, hk]
  unfold mMth
  rw [if_pos h1, hf]
  show mthO x i n mn m e rs = _
  unfold mthO
  simp [h, hk, hl, ho, hm, dOf]
def plL (n : Nat) : List Int := (rngI 0 205).map fun t => 1 + t % ((n : Int) - 1)
theorem plL_len (n : Nat) : (plL n).length = 205 := by unfold plL; rw [List.length_map, rngI_len]
theorem plL_vd {n : Nat} (h1 : 2 ≤ n) : Vd n (plL n) := fun p hp => by
  unfold plL at hp
  obtain ⟨t, _, rfl⟩ := List.mem_map.mp hp
  have a := Int.emod_nonneg t (show (n : Int) - 1 ≠ 0 by omega)
  have b := Int.emod_lt_of_pos t (show 0 < (n : Int) - 1 by omega)
  omega
theorem plL_lc {n : Nat} (h1 : 2 ≤ n) (ns : List Int) (q : Addr) (o4 o5 o6 o7 o8 : Option R) : eLc (iR1 (aCons (eC (.int 205)) aNil)) [3] (gN 3) tTrue (eOp oAdd (eC (.int 1)) (eOp oMod (eVar 3) (eOp oSub (eVar 1) (eC (.int 1))))) (l9 ns n q [] none o4 o5 o6 o7 o8) = .ok (.l true ((plL n).map PyData.int)) := by
  have lc := lcGo_all (fG := gN 3) (fe := eOp oAdd (eC (.int 1)) (eOp oMod (eVar 3) (eOp oSub (eVar 1) (eC (.int 1))))) (env := l9 ns n q [] none o4 o5 o6 o7 o8) PyData.int (fun t => PyData.int (1 + t % ((n : Int) - 1))) (xs := rngI 0 205) fun t _ =>
    ⟨l9 ns n q [] (some (.d (.int t))) o4 o5 o6 o7 o8, rfl, .d (.int (1 + t % ((n : Int) - 1))), by
      have m : oMod (.d (.int t)) (.d (.int ((n : Int) - 1))) = .ok (.d (.int (t % ((n : Int) - 1)))) := oMod_i (by omega)
      have v3 : eVar 3 (l9 ns n q [] (some (.d (.int t))) o4 o5 o6 o7 o8) = .ok (.d (.int t)) := rfl
      have v1 : eVar 1 (l9 ns n q [] (some (.d (.int t))) o4 o5 o6 o7 o8) = .ok (.d (.int n)) := rfl
      simp only [eOp_eq, eC_eq, v3, v1, bind_ok, oSub_i, m, oAdd_i], rfl⟩
  have r : iR1 (aCons (eC (.int 205)) aNil) (l9 ns n q [] none o4 o5 o6 o7 o8) = .ok (rngD 0 205) := by
    show rg1 [205] = _
    exact rg1_ok (by unfold lim; omega)
  rw [eLc_eq, r, bind_ok, rngD_I]
  show Except.bind (quiet (lcGo _ _ _ (l9 ns n q [] none o4 o5 o6 o7 o8) _)) mkL = _
  rw [lc, quiet_ok, bind_ok, mkL_ok (by rw [List.length_map, rngI_len]; decide)]
  unfold plL
  rw [List.map_map]
  rfl
theorem long_swap {ns : List Int} {n : Nat} {q : Addr} {w : List Int} (h1 : 1 ≤ n) (h2 : n ≤ 12) (hv : Vd n w) (hl : w.length < 1000) {p : Int} (p0 : 1 ≤ p) (p1 : p < (n : Int)) (o3 o4 o6 o7 o8 : Option R) :
    b1_law_long_right (l9 ns n q w o3 o4 (some (.d (.int p))) o6 o7 o8) = .ok (.nx (l9 ns n q (w ++ [p]) o3 o4 (some (.d (.int p))) o6 o7 o8)) :=
  dropM_ok (mth_at (i := 2) (P := q) (rs := [.d (.int p)]) rfl rfl rfl rfl (lk_swap n w) (swap_ok h1 h2 hv hl p0 p1 q))
theorem Vd.take {n : Nat} {w : List Int} (h : Vd n w) (i : Nat) : Vd n (w.take i) := fun p hp => h p (List.mem_of_mem_take hp)
theorem long_for {ns : List Int} {n : Nat} {q : Addr} (h1 : 2 ≤ n) (h2 : n ≤ 12) (o3 o4 o5 o6 o7 o8 : Option R) : ∃ o5', forGo (gN 5) b1_law_long_right ((plL n).map PyData.int) (l9 ns n q [] o3 o4 o5 o6 o7 o8) = .ok (.nx (l9 ns n q (plL n) o3 o4 o5' o6 o7 o8)) := by
  have hv := plL_vd h1
  have hlen := plL_len n
  generalize plL n = pl at *
  obtain ⟨env, e, o5', rfl⟩ := forGo_list (fG := gN 5) (g := b1_law_long_right) PyData.int pl (fun i env => ∃ o5, env = l9 ns n q (pl.take i) o3 o4 o5 o6 o7 o8) (l9 ns n q [] o3 o4 o5 o6 o7 o8) ⟨o5, rfl⟩ (by
    rintro i p env hi ⟨o, rfl⟩
    have hil : i < pl.length := (List.getElem?_eq_some_iff.mp hi).1
    have hm := hv p (List.mem_of_getElem? hi)
    have e := long_swap (ns := ns) (q := q) (w := pl.take i) (by omega) h2 (hv.take i) (by rw [List.length_take]; omega) hm.1 hm.2 o3 o4 o6 o7 o8
    refine ⟨l9 ns n q (pl.take i) o3 o4 (some (.d (.int p))) o6 o7 o8, _, rfl, .inl e, some (.d (.int p)), ?_⟩
    rw [List.take_succ, hi]
    rfl)
  rw [List.take_length] at e
  exact ⟨o5', e⟩
theorem long_ok {ns : List Int} (hl : ns.length ≤ 63) : m_law_long_right [.s ns] = .ok (.d (.bool true)) := by
  obtain ⟨d1, d0⟩ := draw_v hl (k := 510) (by omega) (by omega)
  have q4 : (0 : Int) < 4 ∧ (4 : Int) < 1073741824 := by omega
  have q11 : (0 : Int) < 11 := by omega
  obtain ⟨n, hn⟩ : ∃ n : Nat, 2 + drawV ns 510 / 4 % 11 = (n : Int) := ⟨(2 + drawV ns 510 / 4 % 11).toNat, by omega⟩
  have n1 : 2 ≤ n := by omega
  have n12 : n ≤ 12 := by omega
  have hv := plL_vd n1
  have hpl := plL_len n
  have rl := len_row (by omega : 1 ≤ n) n12 hv
  have sh := short_m (by omega : 1 ≤ n) n12 hv
  have ro := row_ok (by omega : 1 ≤ n) n12 hv
  have pla := places_ok (n := n) (w := plL n) (by omega)
  have lw := law_walked_ok (by omega : 1 ≤ n) n12 (w := plL n) hv
  have ht := tuI_len (r := wkF (rngI 1 n) (plL n)) (by omega)
  rw [decide_eq_false (by omega)] at sh
  refine runM_ret [some (.s ns), none, none, none, none, none, none, none, none] rfl ?_
  refine seq_nx [some (.s ns), some (.d (.int n)), none, none, none, none, none, none, none] (set_v (.d (.int n)) (by simp [d1, oDiv_i q4, oMod_i q11, hn])) ?_
  refine sMk1_ok ⟨[.d (.int n)], tF n [], rfl, rfl, rfl, fun q => init_ok (by omega) n12 q, by simp, fun q => ?_⟩
  refine seq_nx (e := l9 ns n q [] none none none none none none) (l9 ns n q [] none (some (.l false ((plL n).map PyData.int))) none none none none) (set_v (.l true ((plL n).map PyData.int)) (plL_lc n1 ns q _ _ _ _ _)) ?_
  refine seq_nx (l9 ns n q [] none (some (.d (LI (plL n)))) none none none none) (by unfold sFrz; rfl) ?_
  obtain ⟨o5, ef⟩ := long_for (ns := ns) (q := q) n1 n12 none (some (.d (LI (plL n)))) none none none none
  refine seq_nx _ (for_v (xs := (plL n).map PyData.int) rfl ef) ?_
  refine seq_nx (l9 ns n q (plL n) none (some (.d (LI (plL n)))) o5 (some (.d .none)) none none) rfl ?_
  refine seq_nx (l9 ns n q (plL n) none (some (.d (LI (plL n)))) o5 (some (.d .none)) (some (.d .none)) none) rfl ?_
  have e7 : eMthR "Trail" 2 0 "is_short" m_Trail_is_short (l9 ns n q (plL n) none (some (.d (LI (plL n)))) o5 (some (.d .none)) (some (.d .none)) none) = .ok (.d (.bool false)) := mthR_v (b := true) rfl sh rfl
  refine seq_nx (l9 ns n q (plL n) none (some (.d (LI (plL n)))) o5 (some (.d .none)) (some (.d (.bool false))) none) (by unfold sTry; rw [e7]; rfl) (ret_v (rE_v ?_))
  have ep : eMthR "Trail" 2 0 "places" m_Trail_places (l9 ns n q (plL n) none (some (.d (LI (plL n)))) o5 (some (.d .none)) (some (.d (.bool false))) none) = .ok (.l true ((plL n).map PyData.int)) := mthR_v (b := true) rfl pla (immO_li _ _)
  have er : eMthR "Trail" 2 0 "row" m_Trail_row (l9 ns n q (plL n) none (some (.d (LI (plL n)))) o5 (some (.d .none)) (some (.d (.bool false))) none) = .ok (.l true ((wkF (rngI 1 n) (plL n)).map PyData.int)) := mthR_v (b := true) rfl ro (immO_li _ _)
  have ew : eD 2 m_law_walked (aCons (eVar 4) (aCons (eVar 1) aNil)) (l9 ns n q (plL n) none (some (.d (LI (plL n)))) o5 (some (.d .none)) (some (.d (.bool false))) none) = .ok (.l true ((wkF (rngI 1 n) (plL n)).map PyData.int)) := call_v (rs := [.d (LI (plL n)), .d (.int n)]) rfl rfl lw
  have a1 : eOp (oIsN false) (eVar 6) (eC .none) (l9 ns n q (plL n) none (some (.d (LI (plL n)))) o5 (some (.d .none)) (some (.d (.bool false))) none) = .ok (.d (.bool true)) := rfl
  have a2 : eOp (oIsB false) (eVar 7) (eC (.bool false)) (l9 ns n q (plL n) none (some (.d (LI (plL n)))) o5 (some (.d .none)) (some (.d (.bool false))) none) = .ok (.d (.bool true)) := rfl
  have a3 : eOp (oEq false) (eMthR "Trail" 2 0 "places" m_Trail_places) (eVar 4) (l9 ns n q (plL n) none (some (.d (LI (plL n)))) o5 (some (.d .none)) (some (.d (.bool false))) none) = .ok (.d (.bool true)) := by
    have v4 : eVar 4 (l9 ns n q (plL n) none (some (.d (LI (plL n)))) o5 (some (.d .none)) (some (.d (.bool false))) none) = .ok (.d (LI (plL n))) := rfl
    rw [eOp_eq, ep, bind_ok, v4, bind_ok]
    rw [oEq_li (ns := plL n) (ms := plL n) rfl rfl]
    simp
  have a4 : eOp (oEq false) (eMthR "Trail" 2 0 "row" m_Trail_row) (eD 2 m_law_walked (aCons (eVar 4) (aCons (eVar 1) aNil))) (l9 ns n q (plL n) none (some (.d (LI (plL n)))) o5 (some (.d .none)) (some (.d (.bool false))) none) = .ok (.d (.bool true)) := by
    rw [eOp_eq, er, bind_ok, ew, bind_ok, oEq_li (ns := wkF (rngI 1 n) (plL n)) (ms := wkF (rngI 1 n) (plL n)) rfl rfl]
    simp
  rw [eAn_eq, a1, bind_ok, bo_eq, bind_ok, if_pos rfl, eAn_eq, a2, bind_ok, bo_eq, bind_ok, if_pos rfl, eAn_eq, a3, bind_ok, bo_eq, bind_ok, if_pos rfl, a4]
end Vs
end
section
namespace Vs
open PySem PySem.Spec PyProof.Rows L2
theorem sItm_ok {i : Nat} {fk fv : Sl → M R} {env : Sl} {b : Bool} {xs : List PD} {k : Int} {j : Nat} {r : R} {d : PD} (h : env[i]? = some (some (.l b xs))) (hv : fv env = .ok r) (hd : dat r = .ok d) (hk : fk env = .ok (.d (.int k))) (hj : ixN xs.length k = some j) :
    sItm i fk fv env = .ok (.nx (env.set i (some (.l false (xs.set j d))))) := by
  have hl : isL i env = true := by unfold isL; rw [h]
  unfold sItm
  rw [if_pos hl, hv, bind_ok, hd, bind_ok, hk, bind_ok, ti_eq, bind_ok]
  have : setAt i k d env = .ok (env.set i (some (.l false (xs.set j d)))) := by
    unfold setAt
    rw [h]
    dsimp only
    rw [hj]
  rw [this]
  rfl
theorem enD_ints (r : List Int) : enD (r.map PyData.int) = r.zipIdx.map fun p => PyData.tuple [.int p.2, .int p.1] := by
  unfold enD
  apply List.ext_getElem?
  intro i
  simp only [List.getElem?_map, List.getElem?_zipIdx, Option.map_map]
  rfl
theorem cut_toA {α : Type} (xs : List α) (n : Nat) : cutD xs none (some (n : Int)) = xs.take n := by
  by_cases h : n ≤ xs.length
  · exact cut_to xs h
  · unfold cutD
    rw [HT.sIx_none, HT.sIx_nat, List.drop_zero, Nat.sub_zero, Nat.min_eq_right (by omega), List.take_of_length_le (Nat.le_refl _), List.take_of_length_le (by omega)]
/-- an item of a list, picked by a number -/
theorem pick_l {b : Bool} {L : List PD} {v m : Int} (hm : (L.length : Int) = m) (h0 : 0 < m) : ∃ d ∈ L, ix2 (.l b L) (.d (.int (v % m))) = .ok (.d d) := by
  have a := Int.emod_nonneg v (show m ≠ 0 by omega)
  have c := Int.emod_lt_of_pos v h0
  obtain ⟨d, e1, e2, _⟩ := atI_lt (ns := L) (i := v % m) a (by omega)
  exact ⟨d, e2, ix2_l e1⟩
end Vs
end
section
namespace Vs
open PySem PySem.Spec PyProof.Rows L2
/-! ## the law's two trails -/
def bI (b : Bool) : Int := if b then 1 else 0
def bN (b : Bool) : Nat := if b then 1 else 0
def updB {α : Type} (f : Bool → α) (b : Bool) (x : α) : Bool → α := fun c => if c = b then x else f c
theorem updB_at {α : Type} (f : Bool → α) (b : Bool) (x : α) : updB f b x b = x := by simp [updB]
theorem updB_id {α : Type} (f : Bool → α) (b : Bool) : updB f b (f b) = f := by
  funext c
  unfold updB
  split
  · rename_i h; rw [h]
  · rfl
abbrev LE (ns : List Int) (n : Bool → Nat) (q : Bool → Addr) (p w : Bool → List Int) (o1 o3 o6 o7 o8 o9 o10 o11 o12 o13 o14 : Option R) : Sl :=
  [some (.s ns), o1, some (.d (LI [(n false : Int), (n true : Int)])), o3, some (.z [.int (q false : Nat), .int (q true : Nat)]), some (.l false [LI (p false), LI (p true)]), o6, o7, o8, o9, o10, o11, o12, o13, o14, some (tO (q false) (n false) (w false)), some (tO (q true) (n true) (w true))]
section
variable {ns : List Int} {n : Bool → Nat} {q : Bool → Addr} {p w : Bool → List Int} {o1 o3 o6 o7 o8 o9 o10 o11 o12 o13 o14 : Option R} {b : Bool} {fi : Sl → M R} {fs : Sl → M (List R)}
theorem cnt_at (b : Bool) : ix2 (.d (LI [(n false : Int), (n true : Int)])) (.d (.int (bI b))) = .ok (.d (.int (n b))) := by cases b <;> rfl
theorem past_at (b : Bool) : ix2 (.l false [LI (p false), LI (p true)]) (.d (.int (bI b))) = .ok (.d (LI (p b))) := by cases b <;> rfl
theorem gh_at (b : Bool) : ghAt "Trail" 4 15 (LE ns n q p w o1 o3 o6 o7 o8 o9 o10 o11 o12 o13 o14) (.d (.int (bI b))) = some (bN b, q b, tF (n b) (w b)) := by
  cases b <;> simp [ghAt, bI, bN]
theorem callG_v {a c v : PD} {w' : List Int} (hi : fi (LE ns n q p w o1 o3 o6 o7 o8 o9 o10 o11 o12 o13 o14) = .ok (.d (.int (bI b)))) (hf : fs (LE ns n q p w o1 o3 o6 o7 o8 o9 o10 o11 o12 o13 o14) = .ok [.d a, .d c])
    (hm : mo_law_told (q b) (tF (n b) (w b)) [.d a, .d c] = .ok (.d v, tF (n b) w')) : mCallG "Trail" 4 15 2 mo_law_told fi fs (LE ns n q p w o1 o3 o6 o7 o8 o9 o10 o11 o12 o13 o14) = .ok (v, LE ns n q p (updB w b w') o1 o3 o6 o7 o8 o9 o10 o11 o12 o13 o14) := by
  unfold mCallG
  rw [hi, quiet_ok, bind_ok, gh_at b]
  dsimp only
  rw [hf, bind_ok, if_pos ⟨rfl, rfl⟩, hm, quiet_ok, bind_ok]
  cases b <;> rfl
theorem rightG_v {w1 : List Int} {n1 : Int} (h1 : 1 ≤ n b) (h2 : n b ≤ 12) (hv : Vd (n b) (w b)) (hl : (w b).length ≤ 1000) (hi : fi (LE ns n q p w o1 o3 o6 o7 o8 o9 o10 o11 o12 o13 o14) = .ok (.d (.int (bI b)))) (hf : fs (LE ns n q p w o1 o3 o6 o7 o8 o9 o10 o11 o12 o13 o14) = .ok [.d (LI (w b)), .d (.int (n b))]) :
    tNo (tV (eCallG "Trail" 4 15 2 m_law_right fi fs)) (LE ns n q p w o1 o3 o6 o7 o8 o9 o10 o11 o12 o13 o14) = .ok false := by
  have e : eCallG "Trail" 4 15 2 m_law_right fi fs (LE ns n q p w o1 o3 o6 o7 o8 o9 o10 o11 o12 o13 o14) = .ok (.d (.bool true)) := by
    unfold eCallG
    rw [hi, quiet_ok, bind_ok, gh_at b]
    dsimp only
    rw [hf, bind_ok, if_pos ⟨rfl, rfl⟩, right_ok h1 h2 hv hl]
    rfl
  rw [tNo_eq, tV_eq, e]
  rfl
theorem itm_v {fk fv : Sl → M R} {w' : List Int} (hv : fv (LE ns n q p w o1 o3 o6 o7 o8 o9 o10 o11 o12 o13 o14) = .ok (.l true (w'.map PyData.int))) (hk : fk (LE ns n q p w o1 o3 o6 o7 o8 o9 o10 o11 o12 o13 o14) = .ok (.d (.int (bI b)))) :
    sItm 5 fk fv (LE ns n q p w o1 o3 o6 o7 o8 o9 o10 o11 o12 o13 o14) = .ok (.nx (LE ns n q (updB p b w') w o1 o3 o6 o7 o8 o9 o10 o11 o12 o13 o14)) := by
  have := sItm_ok (i := 5) (fk := fk) (fv := fv) (env := LE ns n q p w o1 o3 o6 o7 o8 o9 o10 o11 o12 o13 o14) (b := false) (xs := [LI (p false), LI (p true)]) (j := bN b) (d := LI w') rfl hv rfl hk (by cases b <;> rfl)
  rw [this]
  cases b <;> rfl
end
theorem cut_last (xs : List Int) : cutD (xs.map PyData.int) none (some (-1)) = (xs.dropLast).map PyData.int := by
  unfold cutD
  rw [HT.sIx_none, show HT.sIx (xs.map PyData.int).length (xs.map PyData.int).length (some (-1)) = xs.length - 1 by
    show (if (-1 : Int) < 0 then ((-1 : Int) + ((xs.map PyData.int).length : Int)).toNat else min (-1 : Int).toNat (xs.map PyData.int).length) = xs.length - 1
    rw [if_pos (by decide), List.length_map]
    omega]
  rw [List.drop_zero, Nat.sub_zero, List.dropLast_eq_take, List.map_take]
/-! ### what a deed is due -/
theorem due_ne (F : List PD) (h : SeqAt.shaped (.list F) = true) (he : PyData.eqv (.list F) (.list F) = true) : oEq true (.d (.list F)) (.l false F) = .ok (.d (.bool false)) := by
  unfold oEq
  simp only [view_d]
  show (if SeqAt.shaped (.list F) = true ∧ SeqAt.shaped (.list F) = true then _ else _) = _
  rw [if_pos ⟨h, h⟩, he]
  rfl
theorem st_told : PyData.strOk ("told" : Str) = true := by decide +kernel
theorem st_nothing : PyData.strOk ("nothing" : Str) = true := by decide +kernel
theorem st_place : PyData.strOk ("place" : Str) = true := by decide +kernel
theorem due_1 : oEq true (.d (.list [.str "nothing"])) (.l false [.str "nothing"]) = .ok (.d (.bool false)) := due_ne _ (by simp [SeqAt.shaped, PyData.canLay0, PyData.canLayAll0, PyData.depth, PyData.depthAll, st_nothing]) (by simp [PyData.eqv, PyData.eqvAll])
theorem due_2 : oEq true (.d (.list [.str "place"])) (.l false [.str "place"]) = .ok (.d (.bool false)) := due_ne _ (by simp [SeqAt.shaped, PyData.canLay0, PyData.canLayAll0, PyData.depth, PyData.depthAll, st_place]) (by simp [PyData.eqv, PyData.eqvAll])
theorem due_3 : oEq true (.d (.list [.str "told", .none])) (.l false [.str "told", .none]) = .ok (.d (.bool false)) := due_ne _ (by simp [SeqAt.shaped, PyData.canLay0, PyData.canLayAll0, PyData.depth, PyData.depthAll, st_told]) (by simp [PyData.eqv, PyData.eqvAll])
theorem due_4 (i : Int) : oEq true (.d (.list [.str "told", .int i])) (.l false [.str "told", .int i]) = .ok (.d (.bool false)) := due_ne _ (by simp [SeqAt.shaped, PyData.canLay0, PyData.canLayAll0, PyData.depth, PyData.depthAll, st_told]) (by simp [PyData.eqv, PyData.eqvAll])
/-- what the law finds of a deed is as it is due -/
theorem found_t {e : Sl} {F : List PD} {x : PD} (h13 : eVar 13 e = .ok (.d (.list F))) (h12 : eVar 12 e = .ok (.l false F)) (hq : oEq true (.d (.list F)) (.l false F) = .ok (.d (.bool false))) (hx : atI F (-1) = some x) (hb : oIsi "bool" (.d x) = .ok (.d (.bool false))) :
    tOrr (tV (eOp (oEq true) (eVar 13) (eVar 12))) (tV (eUn (oIsi "bool") (eOp ix2 (eVar 13) (eUn oNeg (eC (.int 1)))))) e = .ok false := by
  have e1 : eOp ix2 (eVar 13) (eUn oNeg (eC (.int 1))) e = .ok (.d x) := by
    rw [eOp_eq, h13, bind_ok, eUn_eq, eC_eq, bind_ok, oNeg_i, bind_ok]
    exact ix2_d hx
  rw [tOrr_eq, tV_eq, eOp_eq, h13, bind_ok, h12, bind_ok, hq, bind_ok, bo_eq, bind_ok]
  show tV _ e = _
  rw [tV_eq, eUn_eq, e1, bind_ok, hb]
  rfl
/-! ### the number of a turn -/
theorem pow60 : oPow (.d (.int 10)) (.d (.int 60)) = .ok (.d (.int (10 ^ 60))) := by rfl
theorem pow20 : oPow (.d (.int 10)) (.d (.int 20)) = .ok (.d (.int 100000000000000000000)) := by rfl
theorem num_1 (ns : List Int) (n : Bool → Nat) (q : Bool → Addr) (p w : Bool → List Int) (k c : Int) (k0 : 0 ≤ k) (k1 : k ≤ 1000) (o3 o7 o8 o9 o10 o11 o12 o13 o14 : Option R) :
    ∃ N, 0 ≤ N ∧ sSet 7 (eOp oDiv (eOp oMod (eOp oMul (eOp oAdd (eOp oAdd (eOp oMod (eVar 6) (eC (.int 1000000007))) (eOp oMul (eC (.int 7919)) (eVar 1))) (eC (.int 5))) (eC (.int 48271))) (eC (.int 2147483647))) (eC (.int 3))) (LE ns n q p w (some (.d (.int k))) o3 (some (.d (.int c))) o7 o8 o9 o10 o11 o12 o13 o14) = .ok (.nx (LE ns n q p w (some (.d (.int k))) o3 (some (.d (.int c))) (some (.d (.int N))) o8 o9 o10 o11 o12 o13 o14)) := by
  have q1 : (0 : Int) < 1000000007 := by decide
  have q2 : (0 : Int) < 2147483647 := by decide
  have q3 : (0 : Int) < 3 ∧ (3 : Int) < 1073741824 := by decide
  have s1 : small64 7919 ∨ small64 k := .inl (by unfold small64; omega)
  have s2 : ∀ x : Int, small64 x ∨ small64 48271 := fun x => .inr (by unfold small64; omega)
  refine ⟨(c % 1000000007 + 7919 * k + 5) * 48271 % 2147483647 / 3, Int.ediv_nonneg (Int.emod_nonneg _ (by decide)) (by decide), ?_⟩
  have v6 : eVar 6 (LE ns n q p w (some (.d (.int k))) o3 (some (.d (.int c))) o7 o8 o9 o10 o11 o12 o13 o14) = .ok (.d (.int c)) := rfl
  have v1 : eVar 1 (LE ns n q p w (some (.d (.int k))) o3 (some (.d (.int c))) o7 o8 o9 o10 o11 o12 o13 o14) = .ok (.d (.int k)) := rfl
  exact set_v (.d (.int ((c % 1000000007 + 7919 * k + 5) * 48271 % 2147483647 / 3))) (by
    simp only [eOp_eq, eC_eq, v6, v1, bind_ok, oMod_i q1, oMul_i s1, oAdd_i, oMul_i (s2 _), oMod_i q2, oDiv_i q3])
theorem num_2 (ns : List Int) (n : Bool → Nat) (q : Bool → Addr) (p w : Bool → List Int) (k c N : Int) (hN : 0 ≤ N) (o3 o8 o9 o10 o11 o12 o13 o14 : Option R) :
    ∃ N', 0 ≤ N' ∧ sIf (tAn (tV (eOp (oEq true) (eVar 0) (eL dNil))) (tV (eOp (oEq false) (eOp oMod (eOp ix2 (eVar 0) (eC (.int 0))) (eC (.int 2))) (eC (.int 0))))) (sSet 7 (eOp oMod (eOp oDiv (eVar 6) (eC (.int 2))) (eOp oPow (eC (.int 10)) (eC (.int 60))))) sNext (LE ns n q p w (some (.d (.int k))) o3 (some (.d (.int c))) (some (.d (.int N))) o8 o9 o10 o11 o12 o13 o14) = .ok (.nx (LE ns n q p w (some (.d (.int k))) o3 (some (.d (.int c))) (some (.d (.int N'))) o8 o9 o10 o11 o12 o13 o14)) := by
  have q2 : (0 : Int) < 2 := by decide
  have q3 : (0 : Int) < 2 ∧ (2 : Int) < 1073741824 := by decide
  have v0 : eVar 0 (LE ns n q p w (some (.d (.int k))) o3 (some (.d (.int c))) (some (.d (.int N))) o8 o9 o10 o11 o12 o13 o14) = .ok (.s ns) := rfl
  have v6 : eVar 6 (LE ns n q p w (some (.d (.int k))) o3 (some (.d (.int c))) (some (.d (.int N))) o8 o9 o10 o11 o12 o13 o14) = .ok (.d (.int c)) := rfl
  have big : (0 : Int) < 10 ^ 60 := by decide +kernel
  by_cases hne : ns = []
  · exact ⟨N, hN, if_f (by rw [tAn_eq, tV_eq, eOp_eq, v0, bind_ok, eL_eq, dNil_eq, bind_ok, mkL_0, bind_ok, oEq_s, hne]; rfl) rfl⟩
  · have hpos : 0 < ns.length := List.length_pos_iff.mpr hne
    obtain ⟨a, ha, _⟩ := atI_lt (ns := ns) (i := 0) (by decide) (by omega)
    have ha := ix2_s (atI_map ha)
    have t1 : tAn (tV (eOp (oEq true) (eVar 0) (eL dNil))) (tV (eOp (oEq false) (eOp oMod (eOp ix2 (eVar 0) (eC (.int 0))) (eC (.int 2))) (eC (.int 0)))) (LE ns n q p w (some (.d (.int k))) o3 (some (.d (.int c))) (some (.d (.int N))) o8 o9 o10 o11 o12 o13 o14) = .ok (decide (a % 2 = 0)) := by
      have e1 : tV (eOp (oEq true) (eVar 0) (eL dNil)) (LE ns n q p w (some (.d (.int k))) o3 (some (.d (.int c))) (some (.d (.int N))) o8 o9 o10 o11 o12 o13 o14) = .ok true := by
        rw [tV_eq, eOp_eq, v0, bind_ok]
        show Except.bind (oEq true (.s ns) (.l true [])) bo = _
        rw [oEq_s, decide_eq_false hne]
        rfl
      rw [tAn_eq, e1, bind_ok, if_pos rfl, tV_eq, eOp_eq, eOp_eq, eOp_eq, v0, bind_ok, eC_eq, bind_ok, ha, bind_ok, eC_eq, bind_ok, oMod_i q2, bind_ok, bind_ok, oEq_i]
      simp
    by_cases hp : a % 2 = 0
    · refine ⟨c / 2 % 10 ^ 60, Int.emod_nonneg _ (by omega), if_t (by rw [t1, decide_eq_true hp]) (set_v (.d (.int (c / 2 % 10 ^ 60))) ?_)⟩
      simp only [eOp_eq, eC_eq, v6, bind_ok, oDiv_i q3, pow60, oMod_i big]
    · exact ⟨N, hN, if_f (by rw [t1, decide_eq_false hp]) rfl⟩
end Vs
end
section
namespace Vs
open PySem PySem.Spec PyProof.Rows L2
/-! ## one turn of the law -/
abbrev LT (ns : List Int) (n : Bool → Nat) (q : Bool → Addr) (p w : Bool → List Int) (b : Bool) (u : List Int) (k c N y m : Int) (o12 o13 o14 : Option R) : Sl :=
  LE ns n q p w (some (.d (.int k))) (some (.d (.int (n b)))) (some (.d (.int c))) (some (.d (.int N))) (some (.d (.int (bI b)))) (some (.d (LI u))) (some (.d (.int y))) (some (.d (.int m))) o12 o13 o14
section
variable {ns : List Int} {n : Bool → Nat} {q : Bool → Addr} {p w : Bool → List Int} {b : Bool} {u : List Int} {k c N y m : Int} {o12 o13 o14 : Option R} {fs : Sl → M (List R)}
theorem call_st {a d : PD} {F : List PD} {w' : List Int} (hf : fs (LT ns n q p w b u k c N y m o12 o13 o14) = .ok [.d a, .d d]) (hm : mo_law_told (q b) (tF (n b) (w b)) [.d a, .d d] = .ok (.d (.list F), tF (n b) w')) :
    sSetM 13 (mCallG "Trail" 4 15 2 mo_law_told (eVar 8) fs) (LT ns n q p w b u k c N y m o12 o13 o14) = .ok (.nx (LT ns n q p (updB w b w') b u k c N y m o12 (some (.d (.list F))) o14)) :=
  setM_ok (callG_v (fi := eVar 8) rfl hf hm) (by simp)
end
abbrev deedG : Sl → M Oc := sIf (tV (eOp (oEq false) (eVar 10) (eC (.int 0)))) (sSeq (sSet 12 (eIf (tV (eOp (oEq false) (eVar 9) (eL dNil))) (eL (dCons (eC (.str "nothing")) dNil)) (eL (dCons (eC (.str "told")) (dCons (eOp ix2 (eVar 9) (eUn oNeg (eC (.int 1)))) dNil)))))
  (sSeq (sSetM 13 (mCallG "Trail" 4 15 2 mo_law_told (eVar 8) (aCons (eC (.str "back")) (aCons (eC .none) aNil))))
  (sItm 5 (eVar 8) (eSl (eVar 9) oNone (oSome (eUn oNeg (eC (.int 1)))))))) (sIf (tOrr (tV (eOp (oEq false) (eVar 10) (eC (.int 1)))) (tV (eOp (oEq false) (eVar 3) (eC (.int 1))))) (sSeq (sSet 14 (eOp ix2 (eL (dCons (eC (.int 0)) (dCons (eVar 3) (dCons (eUn oNeg (eC (.int 1))) (dCons (eC (.bool true)) (dCons (eC .none) (dCons (eC (.str "1")) (dCons (eL (dCons (eC (.int 1)) dNil)) (dCons (eOp oPow (eC (.int 10)) (eC (.int 20))) (dCons (eOp oAdd (eVar 3) (eVar 7)) dNil)))))))))) (eOp oMod (eOp oDiv (eVar 7) (eC (.int 24))) (eC (.int 9)))))
  (sSeq (sSet 12 (eL (dCons (eC (.str "place")) dNil)))
  (sSetM 13 (mCallG "Trail" 4 15 2 mo_law_told (eVar 8) (aCons (eC (.str "swap")) (aCons (eVar 14) aNil)))))) (sSeq (sSet 12 (eL (dCons (eC (.str "told")) (dCons (eC .none) dNil))))
  (sSeq (sSetM 13 (mCallG "Trail" 4 15 2 mo_law_told (eVar 8) (aCons (eC (.str "swap")) (aCons (eVar 11) aNil))))
  (sItm 5 (eVar 8) (eOp oAdd (eVar 9) (eL (dCons (eVar 11) dNil)))))))
/-- what a deed leaves -/
structure Deed (F : List PD) : Prop where
  due : oEq true (.d (.list F)) (.l false F) = .ok (.d (.bool false))
  last : ∃ x, atI F (-1) = some x ∧ oIsi "bool" (.d x) = .ok (.d (.bool false))
theorem deed_1 : Deed [.str "nothing"] := ⟨due_1, .str "nothing", rfl, rfl⟩
theorem deed_2 : Deed [.str "place"] := ⟨due_2, .str "place", rfl, rfl⟩
theorem deed_3 : Deed [.str "told", .none] := ⟨due_3, .none, rfl, rfl⟩
theorem deed_4 (i : Int) : Deed [.str "told", .int i] := ⟨due_4 i, .int i, rfl, rfl⟩
theorem deed_ok {ns : List Int} {n : Bool → Nat} {q : Bool → Addr} {w : Bool → List Int} {b : Bool} {k c N y m : Int} (h1 : 1 ≤ n b) (h2 : n b ≤ 12) (hv : Vd (n b) (w b)) (hl : (w b).length < 900) (hN : 0 ≤ N) (hm : 2 ≤ n b → 1 ≤ m ∧ m < (n b : Int)) (o12 o13 o14 : Option R) :
    ∃ w' F p14, Vd (n b) w' ∧ w'.length ≤ (w b).length + 1 ∧ Deed F ∧ deedG (LT ns n q w w b (w b) k c N y m o12 o13 o14) = .ok (.nx (LT ns n q (updB w b w') (updB w b w') b (w b) k c N y m (some (.l false F)) (some (.d (.list F))) p14)) := by
  have ty : ∀ i : Int, tV (eOp (oEq false) (eVar 10) (eC (.int i))) (LT ns n q w w b (w b) k c N y m o12 o13 o14) = .ok (decide (y = i)) := fun i => by
    have v : eVar 10 (LT ns n q w w b (w b) k c N y m o12 o13 o14) = .ok (.d (.int y)) := rfl
    rw [tV_eq, eOp_eq, v, bind_ok, eC_eq, bind_ok, oEq_i]
    simp
  have tn : tV (eOp (oEq false) (eVar 3) (eC (.int 1))) (LT ns n q w w b (w b) k c N y m o12 o13 o14) = .ok (decide ((n b : Int) = 1)) := by
    have v : eVar 3 (LT ns n q w w b (w b) k c N y m o12 o13 o14) = .ok (.d (.int (n b))) := rfl
    rw [tV_eq, eOp_eq, v, bind_ok, eC_eq, bind_ok, oEq_i]
    simp
  by_cases y0 : y = 0
  · have v9 : eVar 9 (LT ns n q w w b (w b) k c N y m o12 o13 o14) = .ok (.d (LI (w b))) := rfl
    have te : tV (eOp (oEq false) (eVar 9) (eL dNil)) (LT ns n q w w b (w b) k c N y m o12 o13 o14) = .ok (decide (w b = [])) := by
      rw [tV_eq, eOp_eq, v9, bind_ok]
      show Except.bind (oEq false (.d (LI (w b))) (.l true [])) bo = _
      rw [oEq_li (ns := w b) (ms := []) rfl rfl]
      simp
    have sl : ∀ (w2 : Bool → List Int) (o12 o13 : Option R), eSl (eVar 9) oNone (oSome (eUn oNeg (eC (.int 1)))) (LT ns n q w w2 b (w b) k c N y m o12 o13 o14) = .ok (.l true ((w b).dropLast.map PyData.int)) := fun w2 o12 o13 => by
      rw [← cut_last]
      rfl
    rcases List.eq_nil_or_concat (w b) with hw | ⟨v, x, hw⟩
    · refine ⟨[], [.str "nothing"], o14, fun _ h => (by cases h), by simp, deed_1, if_t (by rw [ty, decide_eq_true y0]) ?_⟩
      refine seq_nx (LT ns n q w w b (w b) k c N y m (some (.l false [.str "nothing"])) o13 o14) (set_v (.l true [.str "nothing"]) ?_) ?_
      · rw [eIf_eq, te, decide_eq_true hw]
        rfl
      · refine seq_nx (LT ns n q w (updB w b []) b (w b) k c N y m (some (.l false [.str "nothing"])) (some (.d (.list [.str "nothing"]))) o14) (call_st rfl (by rw [hw]; exact told_none _ _)) ?_
        exact itm_v (w' := []) (by rw [sl, hw]; rfl) rfl
    · rw [List.concat_eq_append] at hw
      have hv' := hv
      rw [hw] at hv'
      obtain ⟨hv1, hv2⟩ := Vd.app.mp hv'
      have hx := hv2 x (by simp)
      refine ⟨v, [.str "told", .int x], o14, hv1, by rw [hw]; simp; omega, deed_4 x, if_t (by rw [ty, decide_eq_true y0]) ?_⟩
      refine seq_nx (LT ns n q w w b (w b) k c N y m (some (.l false [.str "told", .int x])) o13 o14) (set_v (.l true [.str "told", .int x]) ?_) ?_
      · have e1 : eOp ix2 (eVar 9) (eUn oNeg (eC (.int 1))) (LT ns n q w w b (w b) k c N y m o12 o13 o14) = .ok (.d (.int x)) := by
          rw [eOp_eq, v9, bind_ok]
          show ix2 (.d (LI (w b))) (.d (.int (-1))) = _
          rw [hw]
          exact ix2_d (by rw [List.map_append]; exact atI_last _ _)
        rw [eIf_eq, te, decide_eq_false (by rw [hw]; simp), bind_ok]
        show eL (dCons (eC (.str "told")) (dCons (eOp ix2 (eVar 9) (eUn oNeg (eC (.int 1)))) dNil)) _ = _
        simp only [eL_eq, dCons_eq, dNil_eq, eC_eq, bind_ok, dat_d, e1, mkL_2]
      · refine seq_nx (LT ns n q w (updB w b v) b (w b) k c N y m (some (.l false [.str "told", .int x])) (some (.d (.list [.str "told", .int x]))) o14) (call_st rfl (by rw [hw]; exact told_back h1 h2 hv1 hx.1 hx.2 _)) ?_
        exact itm_v (w' := v) (by rw [sl, hw, List.dropLast_concat]) rfl
  · by_cases yo : y = 1 ∨ (n b : Int) = 1
    · have tt : tOrr (tV (eOp (oEq false) (eVar 10) (eC (.int 1)))) (tV (eOp (oEq false) (eVar 3) (eC (.int 1)))) (LT ns n q w w b (w b) k c N y m o12 o13 o14) = .ok true := by
        rw [tOrr_eq, ty, bind_ok]
        by_cases y1 : y = 1
        · rw [decide_eq_true y1]; rfl
        · rw [decide_eq_false y1]
          show tV _ _ = _
          rw [tn, decide_eq_true (yo.resolve_left y1)]
      have q9 : (0 : Int) < 9 := by decide
      have q24 : (0 : Int) < 24 ∧ (24 : Int) < 1073741824 := by decide
      obtain ⟨d, hd, e⟩ := pick_l (b := true) (L := [.int 0, .int (n b), .int (-1), .bool true, .none, .str "1", .list [.int 1], .int 100000000000000000000, .int ((n b : Int) + N)]) (v := N / 24) (m := 9) rfl q9
      have nd : okD d = true ∧ amD d 1 ((n b : Int) - 1) = false := by
        simp only [List.mem_cons, List.not_mem_nil, or_false] at hd
        rcases hd with rfl | rfl | rfl | rfl | rfl | rfl | rfl | rfl | rfl <;> refine ⟨rfl, ?_⟩ <;> unfold amD <;> first | rfl | (exact decide_eq_false (by omega))
      refine ⟨w b, [.str "place"], some (.d d), hv, by omega, deed_2, if_f (by rw [ty, decide_eq_false y0]) (if_t tt ?_)⟩
      refine seq_nx (LT ns n q w w b (w b) k c N y m o12 o13 (some (.d d))) (set_v (.d d) ?_) ?_
      · have v3 : eVar 3 (LT ns n q w w b (w b) k c N y m o12 o13 o14) = .ok (.d (.int (n b))) := rfl
        have v7 : eVar 7 (LT ns n q w w b (w b) k c N y m o12 o13 o14) = .ok (.d (.int N)) := rfl
        have e1 : eL (dCons (eC (.int 0)) (dCons (eVar 3) (dCons (eUn oNeg (eC (.int 1))) (dCons (eC (.bool true)) (dCons (eC .none) (dCons (eC (.str "1")) (dCons (eL (dCons (eC (.int 1)) dNil)) (dCons (eOp oPow (eC (.int 10)) (eC (.int 20))) (dCons (eOp oAdd (eVar 3) (eVar 7)) dNil))))))))) (LT ns n q w w b (w b) k c N y m o12 o13 o14) = .ok (.l true [.int 0, .int (n b), .int (-1), .bool true, .none, .str "1", .list [.int 1], .int 100000000000000000000, .int ((n b : Int) + N)]) := by
          simp only [eL_eq, dCons_eq, dNil_eq, eC_eq, v3, v7, eUn_eq, eOp_eq, oNeg_i, oAdd_i, bind_ok, dat_d, mkL_1, dat_l, pow20]
          exact mkL_ok (show 9 ≤ big by decide)
        simp only [eOp_eq, e1, bind_ok, v7, eC_eq, oDiv_i q24, oMod_i q9, e]
      · refine seq_nx (LT ns n q w w b (w b) k c N y m (some (.l false [.str "place"])) o13 (some (.d d))) (set_v (.l true [.str "place"]) rfl) ?_
        have e2 := call_st (ns := ns) (n := n) (q := q) (p := w) (w := w) (b := b) (u := w b) (k := k) (c := c) (N := N) (y := y) (m := m) (o12 := some (.l false [.str "place"])) (o13 := o13) (o14 := some (.d d)) (fs := aCons (eC (.str "swap")) (aCons (eVar 14) aNil)) rfl (told_bad h1 h2 hv nd.1 nd.2 (q b))
        rw [updB_id] at e2 ⊢
        exact e2
    · have tt : tOrr (tV (eOp (oEq false) (eVar 10) (eC (.int 1)))) (tV (eOp (oEq false) (eVar 3) (eC (.int 1)))) (LT ns n q w w b (w b) k c N y m o12 o13 o14) = .ok false := by
        rw [tOrr_eq, ty, bind_ok, decide_eq_false fun z => yo (.inl z)]
        show tV _ _ = _
        rw [tn, decide_eq_false fun z => yo (.inr z)]
      obtain ⟨m0, m1⟩ := hm (by omega)
      have hvn : Vd (n b) (w b ++ [m]) := Vd.app.mpr ⟨hv, Vd.cons.mpr ⟨⟨m0, m1⟩, fun _ h => by cases h⟩⟩
      refine ⟨w b ++ [m], [.str "told", .none], o14, hvn, by simp, deed_3, if_f (by rw [ty, decide_eq_false y0]) (if_f tt ?_)⟩
      refine seq_nx (LT ns n q w w b (w b) k c N y m (some (.l false [.str "told", .none])) o13 o14) (set_v (.l true [.str "told", .none]) rfl) ?_
      refine seq_nx (LT ns n q w (updB w b (w b ++ [m])) b (w b) k c N y m (some (.l false [.str "told", .none])) (some (.d (.list [.str "told", .none]))) o14) (call_st rfl (told_swap h1 h2 hv (by omega) m0 m1 _)) ?_
      refine itm_v (w' := w b ++ [m]) ?_ rfl
      rw [eOp_eq]
      show oAdd (.d (LI (w b))) (.l true [.int m]) = _
      rw [oAdd_dl, mkL_ok (by rw [List.length_append, List.length_map]; exact le_big (by simp; omega)), List.map_append]
      rfl
end Vs
end
section
namespace Vs
open PySem PySem.Spec PyProof.Rows L2
/-! ## the law -/
theorem b1_eq : b1_law = sSeq (sSet 7 (eOp oDiv (eOp oMod (eOp oMul (eOp oAdd (eOp oAdd (eOp oMod (eVar 6) (eC (.int 1000000007))) (eOp oMul (eC (.int 7919)) (eVar 1))) (eC (.int 5))) (eC (.int 48271))) (eC (.int 2147483647))) (eC (.int 3))))
  (sSeq (sIf (tAn (tV (eOp (oEq true) (eVar 0) (eL dNil))) (tV (eOp (oEq false) (eOp oMod (eOp ix2 (eVar 0) (eC (.int 0))) (eC (.int 2))) (eC (.int 0))))) (sSet 7 (eOp oMod (eOp oDiv (eVar 6) (eC (.int 2))) (eOp oPow (eC (.int 10)) (eC (.int 60))))) sNext)
  (sSeq (sSet 8 (eOp oDiv (eOp oMod (eVar 7) (eC (.int 3))) (eC (.int 2))))
  (sSeq (sSet 3 (eOp ix2 (eVar 2) (eVar 8)))
  (sSeq (sSet 9 (eOp ix2 (eVar 5) (eVar 8)))
  (sSeq (sSet 10 (eOp oMod (eOp oDiv (eVar 7) (eC (.int 3))) (eC (.int 8))))
  (sSeq (sSet 11 (eOp oAdd (eC (.int 1)) (eOp oMod (eOp oDiv (eVar 7) (eC (.int 24))) (eF oMax2 (aCons (eC (.int 1)) (aCons (eOp oSub (eVar 3) (eC (.int 1))) aNil))))))
  (sSeq deedG
  (sSeq (sIf (tOrr (tV (eOp (oEq true) (eVar 13) (eVar 12))) (tV (eUn (oIsi "bool") (eOp ix2 (eVar 13) (eUn oNeg (eC (.int 1))))))) (sRet (rE (eC (.bool false)))) sNext)
  (sIf (tNo (tV (eCallG "Trail" 4 15 2 m_law_right (eOp oMod (eVar 1) (eC (.int 2))) (aCons (eOp ix2 (eVar 5) (eOp oMod (eVar 1) (eC (.int 2)))) (aCons (eOp ix2 (eVar 2) (eOp oMod (eVar 1) (eC (.int 2)))) aNil))))) (sRet (rE (eC (.bool false)))) sNext))))))))) := rfl
def okT (n : Bool → Nat) (w : Bool → List Int) (i : Nat) : Prop := ∀ c, Vd (n c) (w c) ∧ (w c).length ≤ i
theorem turn_ok {ns : List Int} {n : Bool → Nat} {q : Bool → Addr} {w : Bool → List Int} {i : Nat} (h1 : ∀ c, 1 ≤ n c) (h2 : ∀ c, n c ≤ 12) (hw : okT n w i) (hi : i < 800) (c : Int) (o3 o7 o8 o9 o10 o11 o12 o13 o14 : Option R) :
    ∃ w' p3 p7 p8 p9 p10 p11 p12 p13 p14, okT n w' (i + 1) ∧ b1_law (LE ns n q w w (some (.d (.int (i : Int)))) o3 (some (.d (.int c))) o7 o8 o9 o10 o11 o12 o13 o14) = .ok (.nx (LE ns n q w' w' (some (.d (.int (i : Int)))) p3 (some (.d (.int c))) p7 p8 p9 p10 p11 p12 p13 p14)) := by
  obtain ⟨N0, hN0, e1⟩ := num_1 ns n q w w (i : Int) c (by omega) (by omega) o3 o7 o8 o9 o10 o11 o12 o13 o14
  obtain ⟨N, hN, e2⟩ := num_2 ns n q w w (i : Int) c N0 hN0 o3 o8 o9 o10 o11 o12 o13 o14
  have q3 : (0 : Int) < 3 := by decide
  have q3d : (0 : Int) < 3 ∧ (3 : Int) < 1073741824 := by decide
  have q2 : (0 : Int) < 2 ∧ (2 : Int) < 1073741824 := by decide
  have q2m : (0 : Int) < 2 := by decide
  have q8 : (0 : Int) < 8 := by decide
  have q24 : (0 : Int) < 24 ∧ (24 : Int) < 1073741824 := by decide
  obtain ⟨b, hb⟩ : ∃ b, N % 3 / 2 = bI b := by
    by_cases z : N % 3 = 2
    · exact ⟨true, by rw [z]; rfl⟩
    · exact ⟨false, by show _ = (0 : Int); omega⟩
  obtain ⟨d, hd⟩ : ∃ d, (i : Int) % 2 = bI d := by
    by_cases z : (i : Int) % 2 = 1
    · exact ⟨true, by rw [z]; rfl⟩
    · exact ⟨false, by show _ = (0 : Int); omega⟩
  have hM : 0 < (if (n b : Int) - 1 > 1 then (n b : Int) - 1 else 1) := by split <;> omega
  have hm : 2 ≤ n b → 1 ≤ 1 + N / 24 % (if (n b : Int) - 1 > 1 then (n b : Int) - 1 else 1) ∧ 1 + N / 24 % (if (n b : Int) - 1 > 1 then (n b : Int) - 1 else 1) < (n b : Int) := fun h => by
    have a := Int.emod_nonneg (N / 24) (show (if (n b : Int) - 1 > 1 then (n b : Int) - 1 else 1) ≠ 0 by omega)
    have c := Int.emod_lt_of_pos (N / 24) hM
    have e : (if (n b : Int) - 1 > 1 then (n b : Int) - 1 else 1) ≤ (n b : Int) - 1 := by split <;> omega
    omega
  obtain ⟨w', F, p14, hv', hl', dd, e3⟩ := deed_ok (ns := ns) (n := n) (q := q) (w := w) (b := b) (k := (i : Int)) (c := c) (N := N) (y := N / 3 % 8) (h1 b) (h2 b) (hw b).1 (by have := (hw b).2; omega) hN hm o12 o13 o14
  have ok' : okT n (updB w b w') (i + 1) := fun c => by
    unfold updB
    by_cases hc : c = b
    · subst hc
      rw [if_pos rfl]
      exact ⟨hv', by have := (hw c).2; omega⟩
    · rw [if_neg hc]
      exact ⟨(hw c).1, by have := (hw c).2; omega⟩
  refine ⟨updB w b w', some (.d (.int (n b))), some (.d (.int N)), some (.d (.int (bI b))), some (.d (LI (w b))), some (.d (.int (N / 3 % 8))), some (.d (.int (1 + N / 24 % (if (n b : Int) - 1 > 1 then (n b : Int) - 1 else 1)))), some (.l false F), some (.d (.list F)), p14, ok', ?_⟩
  rw [b1_eq]
  refine seq_nx _ e1 (seq_nx _ e2 ?_)
  refine seq_nx (LE ns n q w w (some (.d (.int (i : Int)))) o3 (some (.d (.int c))) (some (.d (.int N))) (some (.d (.int (bI b)))) o9 o10 o11 o12 o13 o14) (set_v (.d (.int (bI b))) ?_) ?_
  · have v7 : eVar 7 (LE ns n q w w (some (.d (.int (i : Int)))) o3 (some (.d (.int c))) (some (.d (.int N))) o8 o9 o10 o11 o12 o13 o14) = .ok (.d (.int N)) := rfl
    simp only [eOp_eq, eC_eq, v7, bind_ok, oMod_i q3, oDiv_i q2, hb]
  refine seq_nx (LE ns n q w w (some (.d (.int (i : Int)))) (some (.d (.int (n b)))) (some (.d (.int c))) (some (.d (.int N))) (some (.d (.int (bI b)))) o9 o10 o11 o12 o13 o14) (set_v (.d (.int (n b))) (cnt_at b)) ?_
  refine seq_nx (LE ns n q w w (some (.d (.int (i : Int)))) (some (.d (.int (n b)))) (some (.d (.int c))) (some (.d (.int N))) (some (.d (.int (bI b)))) (some (.d (LI (w b)))) o10 o11 o12 o13 o14) (set_v (.d (LI (w b))) (past_at b)) ?_
  refine seq_nx (LE ns n q w w (some (.d (.int (i : Int)))) (some (.d (.int (n b)))) (some (.d (.int c))) (some (.d (.int N))) (some (.d (.int (bI b)))) (some (.d (LI (w b)))) (some (.d (.int (N / 3 % 8)))) o11 o12 o13 o14) (set_v (.d (.int (N / 3 % 8))) ?_) ?_
  · have v7 : eVar 7 (LE ns n q w w (some (.d (.int (i : Int)))) (some (.d (.int (n b)))) (some (.d (.int c))) (some (.d (.int N))) (some (.d (.int (bI b)))) (some (.d (LI (w b)))) o10 o11 o12 o13 o14) = .ok (.d (.int N)) := rfl
    simp only [eOp_eq, eC_eq, v7, bind_ok, oDiv_i q3d, oMod_i q8]
  refine seq_nx (LT ns n q w w b (w b) (i : Int) c N (N / 3 % 8) (1 + N / 24 % (if (n b : Int) - 1 > 1 then (n b : Int) - 1 else 1)) o12 o13 o14) (set_v (.d (.int (1 + N / 24 % (if (n b : Int) - 1 > 1 then (n b : Int) - 1 else 1)))) ?_) ?_
  · have v7 : eVar 7 (LE ns n q w w (some (.d (.int (i : Int)))) (some (.d (.int (n b)))) (some (.d (.int c))) (some (.d (.int N))) (some (.d (.int (bI b)))) (some (.d (LI (w b)))) (some (.d (.int (N / 3 % 8)))) o11 o12 o13 o14) = .ok (.d (.int N)) := rfl
    have v3 : eVar 3 (LE ns n q w w (some (.d (.int (i : Int)))) (some (.d (.int (n b)))) (some (.d (.int c))) (some (.d (.int N))) (some (.d (.int (bI b)))) (some (.d (LI (w b)))) (some (.d (.int (N / 3 % 8)))) o11 o12 o13 o14) = .ok (.d (.int (n b))) := rfl
    have mx : ∀ j : Int, oMax2 [.d (.int 1), .d (.int j)] = .ok (.d (.int (if j > 1 then j else 1))) := fun _ => rfl
    simp only [eOp_eq, eC_eq, v7, v3, bind_ok, oDiv_i q24, eF_eq, aCons_eq, aNil_eq, oSub_i, mx, oMod_i hM, oAdd_i]
  refine seq_nx _ e3 ?_
  obtain ⟨x, hx, hbx⟩ := dd.last
  refine seq_nx _ (if_f (found_t (F := F) rfl rfl dd.due hx hbx) rfl) ?_
  refine if_f (rightG_v (b := d) (n1 := 0) (w1 := []) (h1 d) (h2 d) (ok' d).1 (by have := (ok' d).2; omega) ?_ ?_) rfl
  · have v1 : eVar 1 (LT ns n q (updB w b w') (updB w b w') b (w b) (i : Int) c N (N / 3 % 8) (1 + N / 24 % (if (n b : Int) - 1 > 1 then (n b : Int) - 1 else 1)) (some (.l false F)) (some (.d (.list F))) p14) = .ok (.d (.int (i : Int))) := rfl
    rw [eOp_eq, v1, bind_ok, eC_eq, bind_ok, oMod_i q2m, hd]
  · have v1 : eOp oMod (eVar 1) (eC (.int 2)) (LT ns n q (updB w b w') (updB w b w') b (w b) (i : Int) c N (N / 3 % 8) (1 + N / 24 % (if (n b : Int) - 1 > 1 then (n b : Int) - 1 else 1)) (some (.l false F)) (some (.d (.list F))) p14) = .ok (.d (.int (bI d))) := by
      show oMod (.d (.int (i : Int))) (.d (.int 2)) = _
      rw [oMod_i q2m, hd]
    have v5 : eVar 5 (LT ns n q (updB w b w') (updB w b w') b (w b) (i : Int) c N (N / 3 % 8) (1 + N / 24 % (if (n b : Int) - 1 > 1 then (n b : Int) - 1 else 1)) (some (.l false F)) (some (.d (.list F))) p14) = .ok (.l false [LI (updB w b w' false), LI (updB w b w' true)]) := rfl
    have v2 : eVar 2 (LT ns n q (updB w b w') (updB w b w') b (w b) (i : Int) c N (N / 3 % 8) (1 + N / 24 % (if (n b : Int) - 1 > 1 then (n b : Int) - 1 else 1)) (some (.l false F)) (some (.d (.list F))) p14) = .ok (.d (LI [(n false : Int), (n true : Int)])) := rfl
    rw [aCons_eq, eOp_eq, v5, bind_ok, v1, bind_ok, past_at (p := updB w b w') d, bind_ok, aCons_eq, eOp_eq, v2, bind_ok, v1, bind_ok, cnt_at d]
    rfl
theorem loop_ok {ns : List Int} (hl : ns.length ≤ 63) {n : Bool → Nat} {q : Bool → Addr} (h1 : ∀ c, 1 ≤ n c) (h2 : ∀ c, n c ≤ 12) (o1 o3 o6 o7 o8 o9 o10 o11 o12 o13 o14 : Option R) :
    ∃ w' p1 p3 p6 p7 p8 p9 p10 p11 p12 p13 p14, okT n w' 200 ∧ forGo (gT (gCons' (gN 1) (gCons' (gN 6) gNil'))) b1_law (enD ((ns ++ [0]).map PyData.int)) (LE ns n q (fun _ => []) (fun _ => []) o1 o3 o6 o7 o8 o9 o10 o11 o12 o13 o14) = .ok (.nx (LE ns n q w' w' p1 p3 p6 p7 p8 p9 p10 p11 p12 p13 p14)) := by
  rw [enD_ints]
  obtain ⟨env, e, w', p1, p3, p6, p7, p8, p9, p10, p11, p12, p13, p14, hk, rfl⟩ := forGo_list (fG := gT (gCons' (gN 1) (gCons' (gN 6) gNil'))) (g := b1_law) (fun p : Int × Nat => PyData.tuple [.int p.2, .int p.1]) ((ns ++ [0]).zipIdx)
    (fun i env => ∃ w p1 p3 p6 p7 p8 p9 p10 p11 p12 p13 p14, okT n w i ∧ env = LE ns n q w w p1 p3 p6 p7 p8 p9 p10 p11 p12 p13 p14) (LE ns n q (fun _ => []) (fun _ => []) o1 o3 o6 o7 o8 o9 o10 o11 o12 o13 o14) ⟨_, _, _, _, _, _, _, _, _, _, _, _, fun c => ⟨(fun _ h => by cases h), Nat.le_refl _⟩, rfl⟩ (by
      rintro i ⟨c, j⟩ env hi ⟨w, p1, p3, p6, p7, p8, p9, p10, p11, p12, p13, p14, hk, rfl⟩
      have hil : i < ((ns ++ [0]).zipIdx).length := (List.getElem?_eq_some_iff.mp hi).1
      rw [List.length_zipIdx, List.length_append] at hil
      have hj : j = i := by
        rw [List.getElem?_zipIdx, Option.map_eq_some_iff] at hi
        obtain ⟨a, _, ea⟩ := hi
        have := (Prod.mk.injEq _ _ _ _ ▸ ea).2
        omega
      subst hj
      obtain ⟨w', r3, r7, r8, r9, r10, r11, r12, r13, r14, hk', e⟩ := turn_ok (ns := ns) (q := q) h1 h2 hk (by simp at hil; omega) c p3 p7 p8 p9 p10 p11 p12 p13 p14
      exact ⟨LE ns n q w w (some (.d (.int (j : Int)))) p3 (some (.d (.int c))) p7 p8 p9 p10 p11 p12 p13 p14, _, rfl, .inl e, w', _, _, _, _, _, _, _, _, _, _, _, hk', rfl⟩)
  refine ⟨w', p1, p3, p6, p7, p8, p9, p10, p11, p12, p13, p14, fun c => ⟨(hk c).1, ?_⟩, e⟩
  have := (hk c).2
  rw [List.length_zipIdx, List.length_append] at this
  simp at this
  omega
theorem iE_eq (fs : Sl → M (List R)) (e : Sl) : iE fs e = (fs e).bind en1 := rfl
theorem law_true : ∀ ns : List Int, ns.length ≤ 63 → m_law [.s ns] = .ok (.d (.bool true)) := fun ns hl => by
  have q4 : (0 : Int) < 4 ∧ (4 : Int) < 1073741824 := by decide
  have q12 : (0 : Int) < 12 := by decide
  have dr : ∀ k : Int, 0 ≤ k → k ≤ 2 → ∃ m : Nat, 1 ≤ m ∧ m ≤ 12 ∧ 1 + drawV ns (500 + k) / 4 % 12 = (m : Int) ∧ m_law_draw [.s ns, .d (.int (500 + k))] = .ok (.d (.int (drawV ns (500 + k)))) := fun k k0 k1 => by
    obtain ⟨d1, d0⟩ := draw_v hl (k := 500 + k) (by omega) (by omega)
    exact ⟨(1 + drawV ns (500 + k) / 4 % 12).toNat, by omega, by omega, by omega, d1⟩
  obtain ⟨n0, a0, a1, e0, _⟩ := dr 0 (by omega) (by omega)
  obtain ⟨n1, b0, b1, e1, _⟩ := dr 1 (by omega) (by omega)
  have lc : eLc (iR1 (aCons (eC (.int 2)) aNil)) [1] (gN 1) tTrue (eOp oAdd (eC (.int 1)) (eOp oMod (eOp oDiv (eD 2 m_law_draw (aCons (eVar 0) (aCons (eOp oAdd (eC (.int 500)) (eVar 1)) aNil))) (eC (.int 4))) (eC (.int 12)))) [some (.s ns), none, none, none, none, none, none, none, none, none, none, none, none, none, none, none, none] = .ok (.l true [.int n0, .int n1]) := by
    have g := lcGo_all (fG := gN 1) (fe := eOp oAdd (eC (.int 1)) (eOp oMod (eOp oDiv (eD 2 m_law_draw (aCons (eVar 0) (aCons (eOp oAdd (eC (.int 500)) (eVar 1)) aNil))) (eC (.int 4))) (eC (.int 12)))) (env := [some (.s ns), none, none, none, none, none, none, none, none, none, none, none, none, none, none, none, none]) PyData.int (fun k => PyData.int (1 + drawV ns (500 + k) / 4 % 12)) (xs := rngI 0 2) fun k hk => by
      have hk := rngI_mem.mp hk
      obtain ⟨_, _, _, _, e⟩ := dr k hk.1 (by omega)
      refine ⟨[some (.s ns), some (.d (.int k)), none, none, none, none, none, none, none, none, none, none, none, none, none, none, none], rfl, .d (.int (1 + drawV ns (500 + k) / 4 % 12)), ?_, rfl⟩
      have e2 : eD 2 m_law_draw (aCons (eVar 0) (aCons (eOp oAdd (eC (.int 500)) (eVar 1)) aNil)) [some (.s ns), some (.d (.int k)), none, none, none, none, none, none, none, none, none, none, none, none, none, none, none] = .ok (.d (.int (drawV ns (500 + k)))) := call_v (rs := [.s ns, .d (.int (500 + k))]) rfl rfl e
      simp only [eOp_eq, eC_eq, e2, bind_ok, oDiv_i q4, oMod_i q12, oAdd_i]
    have r : ∀ env, iR1 (aCons (eC (.int 2)) aNil) env = .ok (rngD 0 2) := fun env => by
      show rg1 [2] = _
      exact rg1_ok (by unfold lim; omega)
    have hr : (rngI 0 2).map (fun k => PyData.int (1 + drawV ns (500 + k) / 4 % 12)) = [.int n0, .int n1] := by
      show [PyData.int (1 + drawV ns (500 + 0) / 4 % 12), PyData.int (1 + drawV ns (500 + 1) / 4 % 12)] = _
      rw [e0, e1]
    rw [eLc_eq, r, bind_ok, rngD_I]
    show Except.bind (quiet (lcGo _ _ _ [some (.s ns), none, none, none, none, none, none, none, none, none, none, none, none, none, none, none, none] _)) mkL = _
    rw [g, quiet_ok, bind_ok, hr, mkL_2]
  refine runM_ret [some (.s ns), none, none, none, none, none, none, none, none, none, none, none, none, none, none, none, none] rfl ?_
  refine seq_nx [some (.s ns), none, some (.l false [.int n0, .int n1]), none, none, none, none, none, none, none, none, none, none, none, none, none, none] (set_v (.l true [.int n0, .int n1]) lc) ?_
  refine seq_nx [some (.s ns), none, some (.d (LI [(n0 : Int), (n1 : Int)])), none, none, none, none, none, none, none, none, none, none, none, none, none, none] (by unfold sFrz; rfl) ?_
  refine sMk2_ok ⟨.int n0, .int n1, tF n0 [], tF n1 [], rfl, ⟨_, [.d (.int n0)], rfl, rfl, rfl, rfl, fun q => init_ok a0 a1 q⟩, ⟨_, [.d (.int n1)], rfl, rfl, rfl, rfl, fun q => init_ok b0 b1 q⟩, by simp, by simp, fun q0 q1 => ?_⟩
  have h1 : ∀ c, 1 ≤ (fun b => cond b n1 n0) c := fun c => by cases c <;> assumption
  have h2 : ∀ c, (fun b => cond b n1 n0) c ≤ 12 := fun c => by cases c <;> assumption
  obtain ⟨w, p1, p3, p6, p7, p8, p9, p10, p11, p12, p13, p14, hk, ef⟩ := loop_ok hl (n := fun b => cond b n1 n0) (q := fun b => cond b q1 q0) h1 h2 none none none none none none none none none none none
  refine seq_nx (LE ns (fun b => cond b n1 n0) (fun b => cond b q1 q0) (fun _ => []) (fun _ => []) none none none none none none none none none none none) (set_v (.l true [LI [], LI []]) rfl) ?_
  refine seq_nx _ (for_v (xs := enD ((ns ++ [0]).map PyData.int)) ?_ ef) ?_
  · have s1 : eSl (eVar 0) oNone (oSome (eC (.int 200))) (LE ns (fun b => cond b n1 n0) (fun b => cond b q1 q0) (fun _ => []) (fun _ => []) none none none none none none none none none none none) = .ok (.l true (ns.map PyData.int)) := by
      have z := cut_toA (ns.map PyData.int) 200
      rw [List.take_of_length_le (by rw [List.length_map]; omega)] at z
      show sl3 (.s ns) none (some 200) = _
      show (.ok (.l true (cutD (ns.map PyData.int) none (some ((200 : Nat) : Int)))) : M R) = _
      rw [z]
    rw [iE_eq, aCons_eq, eOp_eq, s1, bind_ok]
    show Except.bind (Except.bind (oAdd (.l true (ns.map PyData.int)) (.l true [.int 0])) _) _ = _
    rw [oAdd_ll, mkL_ok (by rw [List.length_append, List.length_map]; exact le_big (by simp; omega)), bind_ok]
    show Except.ok (enD (ns.map PyData.int ++ [.int 0])) = _
    rw [List.map_append]
    rfl
  · refine seq_nx (LE ns (fun b => cond b n1 n0) (fun b => cond b q1 q0) w w p1 p3 p6 p7 p8 p9 p10 p11 p12 p13 p14) (if_f ?_ rfl) (ret_v (rE_v ?_))
    · have t0 := rightG_v (ns := ns) (n := fun b => cond b n1 n0) (q := fun b => cond b q1 q0) (p := w) (w := w) (o1 := p1) (o3 := p3) (o6 := p6) (o7 := p7) (o8 := p8) (o9 := p9) (o10 := p10) (o11 := p11) (o12 := p12) (o13 := p13) (o14 := p14) (b := false) (n1 := 0) (w1 := []) (fi := eC (.int 0)) (fs := aCons (eOp ix2 (eVar 5) (eC (.int 0))) (aCons (eOp ix2 (eVar 2) (eC (.int 0))) aNil)) a0 a1 (hk false).1 (by have := (hk false).2; omega) rfl rfl
      have t1 := rightG_v (ns := ns) (n := fun b => cond b n1 n0) (q := fun b => cond b q1 q0) (p := w) (w := w) (o1 := p1) (o3 := p3) (o6 := p6) (o7 := p7) (o8 := p8) (o9 := p9) (o10 := p10) (o11 := p11) (o12 := p12) (o13 := p13) (o14 := p14) (b := true) (n1 := 0) (w1 := []) (fi := eC (.int 1)) (fs := aCons (eOp ix2 (eVar 5) (eC (.int 1))) (aCons (eOp ix2 (eVar 2) (eC (.int 1))) aNil)) b0 b1 (hk true).1 (by have := (hk true).2; omega) rfl rfl
      rw [tOrr_eq, t0, bind_ok]
      exact t1
    · exact call_v (rs := [.s ns]) (as := [.s ns]) rfl rfl (long_ok hl)
end Vs
end
section
namespace Vs
open PySem PySem.Spec PyProof.Rows L2
def topS (i : Nat) : Stmt := PySem.Challenge.pw_swaplattice_k12_trails.main.body.getD i (.Pass ⟨0, 0, 0, 0⟩)
def clsS (i j : Nat) : Stmt := match topS i with
  | .ClassDef _ _ _ b _ _ _ _ _ _ _ => b.getD j (.Pass ⟨0, 0, 0, 0⟩)
  | _ => .Pass ⟨0, 0, 0, 0⟩
structure Tx (w : Wd) : Prop where
  n_ValueError : w.mg "ValueError" = none
  n_bool : w.mg "bool" = none
  n_enumerate : w.mg "enumerate" = none
  n_int : w.mg "int" = none
  n_isinstance : w.mg "isinstance" = none
  n_len : w.mg "len" = none
  n_list : w.mg "list" = none
  n_max : w.mg "max" = none
  n_range : w.mg "range" = none
  n_repr : w.mg "repr" = none
  n_sorted : w.mg "sorted" = none
  n_sum : w.mg "sum" = none
  c_MOST_THINGS : ∃ t, w.mg "MOST_THINGS" = some (.int 12 t)
  x_BadMany : Xc w "BadMany"
  x_BadPlace : Xc w "BadPlace"
  x_NothingDone : Xc w "NothingDone"
  S : Xs w exN
  seto : w.seto = rfP
  k_Trail : Kc w "Trail" ["now", "past"]
abbrev s_is_among : Stmt := topS 16
theorem sc_is_among : FnScope ["thing", "least", "most"] ["thing", "least", "most"] (defScope s_is_among) := ⟨rfl, rfl, rfl, by decide +kernel, rfl, by decide +kernel, by decide +kernel⟩
theorem ok_is_among {P : Program} {wd : World} {w : Wd} {base : Heap} (ok : w.Ok) (T : Tx w) (F : HasDef w "is_among" s_is_among ["thing", "least", "most"]) : Dfn P wd w base "is_among" 1 3 m_is_among := by
  obtain ⟨f, fd, F, hm, hb⟩ := F.ex
  exact ⟨f, fd, ["thing", "least", "most"], fn_okM F sc_is_among rfl fun cdv A outer s H E hr =>
  (xss_one (xs_ret (xr_e ok (xe_and ok (xe_isi "int" ok rfl (by rfl) T.n_isinstance (by rfl) T.n_int (by decide +kernel) (xe_var 0)) (xe_and ok (xe_not ok (xe_isi "bool" ok rfl (by rfl) T.n_isinstance (by rfl) T.n_bool (by decide +kernel) (xe_var 0))) (xe_one (xe_chain ok op_le leS oI_tame op_le leS oI_tame (xe_var 1) (xe_var 0) (xe_var 2)))))))), hm, F.kp, hb⟩
abbrev s_need_many : Stmt := topS 17
theorem sc_need_many : FnScope ["thing"] ["thing"] (defScope s_need_many) := ⟨rfl, rfl, rfl, by decide +kernel, rfl, by decide +kernel, by decide +kernel⟩
theorem ok_need_many {P : Program} {wd : World} {w : Wd} {base : Heap} (ok : w.Ok) (T : Tx w) (F : HasDef w "need_many" s_need_many ["thing"]) (D_is_among : Dfn P wd w base "is_among" 1 3 m_is_among) : Dfn P wd w base "need_many" 2 1 m_need_many := by
  obtain ⟨f, fd, F, hm, hb⟩ := F.ex
  exact ⟨f, fd, ["thing"], fn_okM F sc_need_many rfl fun cdv A outer s H E hr =>
  (xss_one (xs_if ok (xt_not ok (xt_val ok (xe_call ok rfl rfl (D_is_among.mono (by decide)) hr (takes_of rfl rfl rfl rfl) (by rfl) (xa_cons ok (xe_var 0) (xa_cons ok xe_int (xa_cons ok (xe_gI (by rfl) T.c_MOST_THINGS) xa_nil)))))) (xss_one (xs_raise rfl rfl rfl (takes_of rfl rfl rfl rfl) T.x_BadMany (by rfl))) xss_nil)), hm, F.kp, hb⟩
abbrev s_first_row : Stmt := topS 18
theorem sc_first_row : FnScope ["many"] ["many"] (defScope s_first_row) := ⟨rfl, rfl, rfl, by decide +kernel, rfl, by decide +kernel, by decide +kernel⟩
theorem ok_first_row {P : Program} {wd : World} {w : Wd} {base : Heap} (ok : w.Ok) (T : Tx w) (F : HasDef w "first_row" s_first_row ["many"]) (D_need_many : Dfn P wd w base "need_many" 2 1 m_need_many) : Dfn P wd w base "first_row" 3 1 m_first_row := by
  obtain ⟨f, fd, F, hm, hb⟩ := F.ex
  exact ⟨f, fd, ["many"], fn_okM F sc_first_row rfl fun cdv A outer s H E hr =>
  (xss_cons (xs_expr ok (xe_call ok rfl rfl (D_need_many.mono (by decide)) hr (takes_of rfl rfl rfl rfl) (by rfl) (xa_cons ok (xe_var 0) xa_nil)))
  (xss_one (xs_ret (xr_e ok (xe_lr2 ok rfl (by rfl) T.n_list (by rfl) T.n_range xe_int (xe_add ok (xe_var 0) xe_int)))))), hm, F.kp, hb⟩
abbrev s_is_place : Stmt := topS 20
theorem sc_is_place : FnScope ["thing", "many"] ["thing", "many"] (defScope s_is_place) := ⟨rfl, rfl, rfl, by decide +kernel, rfl, by decide +kernel, by decide +kernel⟩
theorem ok_is_place {P : Program} {wd : World} {w : Wd} {base : Heap} (ok : w.Ok) (T : Tx w) (F : HasDef w "is_place" s_is_place ["thing", "many"]) (D_is_among : Dfn P wd w base "is_among" 1 3 m_is_among) : Dfn P wd w base "is_place" 2 2 m_is_place := by
  obtain ⟨f, fd, F, hm, hb⟩ := F.ex
  exact ⟨f, fd, ["thing", "many"], fn_okM F sc_is_place rfl fun cdv A outer s H E hr =>
  (xss_one (xs_ret (xr_e ok (xe_call ok rfl rfl (D_is_among.mono (by decide)) hr (takes_of rfl rfl rfl rfl) (by rfl) (xa_cons ok (xe_var 0) (xa_cons ok xe_int (xa_cons ok (xe_sub ok (xe_var 1) xe_int) xa_nil))))))), hm, F.kp, hb⟩
abbrev s_exchanged : Stmt := topS 21
theorem sc_exchanged : FnScope ["row", "place"] ["row", "place"] (defScope s_exchanged) := ⟨rfl, rfl, rfl, by decide +kernel, rfl, by decide +kernel, by decide +kernel⟩
theorem ok_exchanged {P : Program} {wd : World} {w : Wd} {base : Heap} (ok : w.Ok) (T : Tx w) (F : HasDef w "exchanged" s_exchanged ["row", "place"]) : Dfn P wd w base "exchanged" 1 2 m_exchanged := by
  obtain ⟨f, fd, F, hm, hb⟩ := F.ex
  exact ⟨f, fd, ["row", "place"], fn_okM F sc_exchanged rfl fun cdv A outer s H E hr =>
  (xss_one (xs_ret (xr_e ok (xe_add ok (xe_add ok (xe_slice ok rfl (xe_var 0) xo_none (xo_some ok (xe_sub ok (xe_var 1) xe_int))) (xe_list ok (xd_cons ok (xe_ix ok rfl (xe_var 0) (xe_var 1)) (xd_cons ok (xe_ix ok rfl (xe_var 0) (xe_sub ok (xe_var 1) xe_int)) xd_nil)))) (xe_slice ok rfl (xe_var 0) (xo_some ok (xe_add ok (xe_var 1) xe_int)) xo_none))))), hm, F.kp, hb⟩
abbrev s_goes_up : Stmt := topS 23
theorem sc_goes_up : FnScope ["places", "many", "here", "place"] ["places", "many"] (defScope s_goes_up) := ⟨rfl, rfl, rfl, by decide +kernel, rfl, by decide +kernel, by decide +kernel⟩
theorem ok_goes_up {P : Program} {wd : World} {w : Wd} {base : Heap} (ok : w.Ok) (T : Tx w) (F : HasDef w "goes_up" s_goes_up ["places", "many"]) (D_first_row : Dfn P wd w base "first_row" 3 1 m_first_row) (D_exchanged : Dfn P wd w base "exchanged" 1 2 m_exchanged) : Dfn P wd w base "goes_up" 4 2 m_goes_up := by
  obtain ⟨f, fd, F, hm, hb⟩ := F.ex
  exact ⟨f, fd, ["places", "many"], fn_okM F sc_goes_up rfl fun cdv A outer s H E hr =>
  (xss_cons (xs_set (i := 2) ok sc_goes_up.nd rfl (Or.inl rfl) (xe_call ok rfl rfl (D_first_row.mono (by decide)) hr (takes_of rfl rfl rfl rfl) (by rfl) (xa_cons ok (xe_var 1) xa_nil)))
  (xss_cons (xs_for ok (passes_of rfl) rfl (xi_list rfl (xe_var 0)) (xg_name (i := 3) sc_goes_up.nd rfl (Or.inl rfl)) (xss_cons (xs_if ok (xt_cmp ok op_gt gtS oI_tame (xe_ix ok rfl (xe_var 2) (xe_sub ok (xe_var 3) xe_int)) (xe_ix ok rfl (xe_var 2) (xe_var 3)) (nomark _)) (xss_one (xs_ret (xr_e ok xe_bl))) xss_nil)
  (xss_one (xs_set (i := 2) ok sc_goes_up.nd rfl (Or.inl rfl) (xe_call ok rfl rfl (D_exchanged.mono (by decide)) hr (takes_of rfl rfl rfl rfl) (by rfl) (xa_cons ok (xe_var 2) (xa_cons ok (xe_var 3) xa_nil)))))))
  (xss_one (xs_ret (xr_e ok xe_bl))))), hm, F.kp, hb⟩
abbrev s_Trail___init__ : Stmt := clsS 25 0
theorem sc_Trail___init__ : FnScope ["self", "many"] ["self", "many"] (defScope s_Trail___init__) := ⟨rfl, rfl, rfl, by decide +kernel, rfl, by decide +kernel, by decide +kernel⟩
theorem ok_Trail___init__ {P : Program} {wd : World} {w : Wd} {base : Heap} (ok : w.Ok) (T : Tx w) {f : Addr} {fd : FuncData} (F : FunD w.K "__init__" "Trail.__init__" (defArgs s_Trail___init__) (defBody s_Trail___init__) (defScope s_Trail___init__) [] [] f fd) (D_first_row : Dfn P wd w base "first_row" 3 1 m_first_row) : FnOk P wd w.K w.mg base (L2.CX P wd) 4 f fd ["self", "many"] (spO w "Trail" 1 mo_Trail___init__) :=
  fn_okO F sc_Trail___init__ rfl fun cdv A outer s H E hr =>
  (xss_cons (xs_fst 0 ok rfl T.k_Trail (by decide) (pv 0) (xe_call ok rfl rfl (D_first_row.mono (by decide)) hr (takes_of rfl rfl rfl rfl) (by rfl) (xa_cons ok (xe_var 1) xa_nil)))
  (xss_one (xs_fst 0 ok rfl T.k_Trail (by decide) (pv 0) (xe_list ok xd_nil))))
abbrev s_Trail_swap : Stmt := clsS 25 1
theorem sc_Trail_swap : FnScope ["self", "place"] ["self", "place"] (defScope s_Trail_swap) := ⟨rfl, rfl, rfl, by decide +kernel, rfl, by decide +kernel, by decide +kernel⟩
theorem ok_Trail_swap {P : Program} {wd : World} {w : Wd} {base : Heap} (ok : w.Ok) (T : Tx w) {f : Addr} {fd : FuncData} (F : FunD w.K "swap" "Trail.swap" (defArgs s_Trail_swap) (defBody s_Trail_swap) (defScope s_Trail_swap) [] [] f fd) (D_is_place : Dfn P wd w base "is_place" 2 2 m_is_place) (D_exchanged : Dfn P wd w base "exchanged" 1 2 m_exchanged) : FnOk P wd w.K w.mg base (L2.CX P wd) 3 f fd ["self", "place"] (spO w "Trail" 1 mo_Trail_swap) :=
  fn_okO F sc_Trail_swap rfl fun cdv A outer s H E hr =>
  (xss_cons (xs_if ok (xt_not ok (xt_val ok (xe_call ok rfl rfl (D_is_place.mono (by decide)) hr (takes_of rfl rfl rfl rfl) (by rfl) (xa_cons ok (xe_var 1) (xa_cons ok (xe_callB ok call_len (lenS rfl) (one_tame oLen_tame) (by rfl) T.n_len (by decide +kernel) (xa_cons ok (xe_fld 0 rfl T.k_Trail (by decide) (pv 0)) xa_nil)) xa_nil))))) (xss_one (xs_raise rfl rfl rfl (takes_of rfl rfl rfl rfl) T.x_BadPlace (by rfl))) xss_nil)
  (xss_cons (xs_fst 0 ok rfl T.k_Trail (by decide) (pv 0) (xe_call ok rfl rfl (D_exchanged.mono (by decide)) hr (takes_of rfl rfl rfl rfl) (by rfl) (xa_cons ok (xe_fld 0 rfl T.k_Trail (by decide) (pv 0)) (xa_cons ok (xe_var 1) xa_nil))))
  (xss_one (xs_fm ok rfl fm_app T.k_Trail (by decide) (pe_bm PySem.F.plainAttrs_list PySem.F.slot_list_append PySem.F.type_list_append mt_append (pe_fld (pv 0) rfl) (xd_cons ok (xe_var 1) xd_nil))))))
theorem okr_Trail_swap {P : Program} {wd : World} {w : Wd} {base : Heap} (ok : w.Ok) (T : Tx w) {f : Addr} {fd : FuncData} (F : FunD w.K "swap" "Trail.swap" (defArgs s_Trail_swap) (defBody s_Trail_swap) (defScope s_Trail_swap) [] [] f fd) (D_is_place : Dfn P wd w base "is_place" 2 2 m_is_place) (D_exchanged : Dfn P wd w base "exchanged" 1 2 m_exchanged) : FnOk P wd w.K w.mg base (L2.CX P wd) 3 f fd ["self", "place"] (spM w 2 m_Trail_swap) :=
  fn_okM F sc_Trail_swap rfl fun cdv A outer s H E hr =>
  (xss_cons (xs_if ok (xt_not ok (xt_val ok (xe_call ok rfl rfl (D_is_place.mono (by decide)) hr (takes_of rfl rfl rfl rfl) (by rfl) (xa_cons ok (xe_var 1) (xa_cons ok (xe_callB ok call_len (lenS rfl) (one_tame oLen_tame) (by rfl) T.n_len (by decide +kernel) (xa_cons ok (xe_fld 0 rfl T.k_Trail (by decide) (pv 0)) xa_nil)) xa_nil))))) (xss_one (xs_raise rfl rfl rfl (takes_of rfl rfl rfl rfl) T.x_BadPlace (by rfl))) xss_nil)
  (xss_cons (xs_fst 0 ok rfl T.k_Trail (by decide) (pv 0) (xe_call ok rfl rfl (D_exchanged.mono (by decide)) hr (takes_of rfl rfl rfl rfl) (by rfl) (xa_cons ok (xe_fld 0 rfl T.k_Trail (by decide) (pv 0)) (xa_cons ok (xe_var 1) xa_nil))))
  (xss_one (xs_fm ok rfl fm_app T.k_Trail (by decide) (pe_bm PySem.F.plainAttrs_list PySem.F.slot_list_append PySem.F.type_list_append mt_append (pe_fld (pv 0) rfl) (xd_cons ok (xe_var 1) xd_nil))))))
abbrev s_Trail_back : Stmt := clsS 25 2
theorem sc_Trail_back : FnScope ["self", "place"] ["self"] (defScope s_Trail_back) := ⟨rfl, rfl, rfl, by decide +kernel, rfl, by decide +kernel, by decide +kernel⟩
theorem ok_Trail_back {P : Program} {wd : World} {w : Wd} {base : Heap} (ok : w.Ok) (T : Tx w) {f : Addr} {fd : FuncData} (F : FunD w.K "back" "Trail.back" (defArgs s_Trail_back) (defBody s_Trail_back) (defScope s_Trail_back) [] [] f fd) (D_exchanged : Dfn P wd w base "exchanged" 1 2 m_exchanged) : FnOk P wd w.K w.mg base (L2.CX P wd) 2 f fd ["self"] (spO w "Trail" 0 mo_Trail_back) :=
  fn_okO F sc_Trail_back rfl fun cdv A outer s H E hr =>
  (xss_cons (xs_if ok (xt_cmp ok (op_eqD (room64 hr)) (eqS rfl) oEq_tame (xe_fld 0 rfl T.k_Trail (by decide) (pv 0)) (xe_list ok xd_nil) (nomark _)) (xss_one (xs_raise rfl rfl rfl (takes_of rfl rfl rfl rfl) T.x_NothingDone (by rfl))) xss_nil)
  (xss_cons (xs_setM (i := 1) ok sc_Trail_back.nd rfl (Or.inl rfl) (xm_fpop 0 ok rfl T.k_Trail (by decide) (pv 0)))
  (xss_cons (xs_fst 0 ok rfl T.k_Trail (by decide) (pv 0) (xe_call ok rfl rfl (D_exchanged.mono (by decide)) hr (takes_of rfl rfl rfl rfl) (by rfl) (xa_cons ok (xe_fld 0 rfl T.k_Trail (by decide) (pv 0)) (xa_cons ok (xe_var 1) xa_nil))))
  (xss_one (xs_retS ok (xe_var 1))))))
theorem okr_Trail_back {P : Program} {wd : World} {w : Wd} {base : Heap} (ok : w.Ok) (T : Tx w) {f : Addr} {fd : FuncData} (F : FunD w.K "back" "Trail.back" (defArgs s_Trail_back) (defBody s_Trail_back) (defScope s_Trail_back) [] [] f fd) (D_exchanged : Dfn P wd w base "exchanged" 1 2 m_exchanged) : FnOk P wd w.K w.mg base (L2.CX P wd) 2 f fd ["self"] (spM w 1 m_Trail_back) :=
  fn_okM F sc_Trail_back rfl fun cdv A outer s H E hr =>
  (xss_cons (xs_if ok (xt_cmp ok (op_eqD (room64 hr)) (eqS rfl) oEq_tame (xe_fld 0 rfl T.k_Trail (by decide) (pv 0)) (xe_list ok xd_nil) (nomark _)) (xss_one (xs_raise rfl rfl rfl (takes_of rfl rfl rfl rfl) T.x_NothingDone (by rfl))) xss_nil)
  (xss_cons (xs_setM (i := 1) ok sc_Trail_back.nd rfl (Or.inl rfl) (xm_fpop 0 ok rfl T.k_Trail (by decide) (pv 0)))
  (xss_cons (xs_fst 0 ok rfl T.k_Trail (by decide) (pv 0) (xe_call ok rfl rfl (D_exchanged.mono (by decide)) hr (takes_of rfl rfl rfl rfl) (by rfl) (xa_cons ok (xe_fld 0 rfl T.k_Trail (by decide) (pv 0)) (xa_cons ok (xe_var 1) xa_nil))))
  (xss_one (xs_retS ok (xe_var 1))))))
abbrev s_Trail_row : Stmt := clsS 25 3
theorem sc_Trail_row : FnScope ["self"] ["self"] (defScope s_Trail_row) := ⟨rfl, rfl, rfl, by decide +kernel, rfl, by decide +kernel, by decide +kernel⟩
theorem ok_Trail_row {P : Program} {wd : World} {w : Wd} {base : Heap} (ok : w.Ok) (T : Tx w) {f : Addr} {fd : FuncData} (F : FunD w.K "row" "Trail.row" (defArgs s_Trail_row) (defBody s_Trail_row) (defScope s_Trail_row) [] [] f fd) : FnOk P wd w.K w.mg base (L2.CX P wd) 1 f fd ["self"] (spM w 1 m_Trail_row) :=
  fn_okM F sc_Trail_row rfl fun cdv A outer s H E hr =>
  (xss_one (xs_retS ok (xe_callTy ok call_list_of (listS rfl) (one_tame oList_tame) (by rfl) T.n_list (by decide +kernel) (xa_cons ok (xe_fld 0 rfl T.k_Trail (by decide) (pv 0)) xa_nil))))
abbrev s_Trail_places : Stmt := clsS 25 4
theorem sc_Trail_places : FnScope ["self"] ["self"] (defScope s_Trail_places) := ⟨rfl, rfl, rfl, by decide +kernel, rfl, by decide +kernel, by decide +kernel⟩
theorem ok_Trail_places {P : Program} {wd : World} {w : Wd} {base : Heap} (ok : w.Ok) (T : Tx w) {f : Addr} {fd : FuncData} (F : FunD w.K "places" "Trail.places" (defArgs s_Trail_places) (defBody s_Trail_places) (defScope s_Trail_places) [] [] f fd) : FnOk P wd w.K w.mg base (L2.CX P wd) 1 f fd ["self"] (spM w 1 m_Trail_places) :=
  fn_okM F sc_Trail_places rfl fun cdv A outer s H E hr =>
  (xss_one (xs_retS ok (xe_callTy ok call_list_of (listS rfl) (one_tame oList_tame) (by rfl) T.n_list (by decide +kernel) (xa_cons ok (xe_fld 0 rfl T.k_Trail (by decide) (pv 0)) xa_nil))))
abbrev s_Trail_is_short : Stmt := clsS 25 5
theorem sc_Trail_is_short : FnScope ["self"] ["self"] (defScope s_Trail_is_short) := ⟨rfl, rfl, rfl, by decide +kernel, rfl, by decide +kernel, by decide +kernel⟩
theorem ok_Trail_is_short {P : Program} {wd : World} {w : Wd} {base : Heap} (ok : w.Ok) (T : Tx w) {f : Addr} {fd : FuncData} (F : FunD w.K "is_short" "Trail.is_short" (defArgs s_Trail_is_short) (defBody s_Trail_is_short) (defScope s_Trail_is_short) [] [] f fd) (D_goes_up : Dfn P wd w base "goes_up" 4 2 m_goes_up) : FnOk P wd w.K w.mg base (L2.CX P wd) 5 f fd ["self"] (spM w 1 m_Trail_is_short) :=
  fn_okM F sc_Trail_is_short rfl fun cdv A outer s H E hr =>
  (xss_one (xs_retS ok (xe_call ok rfl rfl (D_goes_up.mono (by decide)) hr (takes_of rfl rfl rfl rfl) (by rfl) (xa_cons ok (xe_fld 0 rfl T.k_Trail (by decide) (pv 0)) (xa_cons ok (xe_callB ok call_len (lenS rfl) (one_tame oLen_tame) (by rfl) T.n_len (by decide +kernel) (xa_cons ok (xe_fld 0 rfl T.k_Trail (by decide) (pv 0)) xa_nil)) xa_nil)))))
abbrev s_law_draw : Stmt := topS 27
theorem sc_law_draw : FnScope ["_law_script", "_law_k", "_law_cell", "_law_turn", "_law_number"] ["_law_script", "_law_k"] (defScope s_law_draw) := ⟨rfl, rfl, rfl, by decide +kernel, rfl, by decide +kernel, by decide +kernel⟩
theorem ok_law_draw {P : Program} {wd : World} {w : Wd} {base : Heap} (ok : w.Ok) (T : Tx w) (F : HasDef w "_law_draw" s_law_draw ["_law_script", "_law_k"]) : Dfn P wd w base "_law_draw" 1 2 m_law_draw := by
  obtain ⟨f, fd, F, hm, hb⟩ := F.ex
  exact ⟨f, fd, ["_law_script", "_law_k"], fn_okM F sc_law_draw rfl fun cdv A outer s H E hr =>
  (xss_cons (xs_if ok (xt_w (xw_and ok (xt_cmp ok (op_neD (room64 hr)) (neS rfl) oEq_tame (xe_var 0) (xe_list ok xd_nil) (nomark _)) (xw_and1 (xt_cmp ok (op_eqD (room64 hr)) (eqS rfl) oEq_tame (xe_mod ok (xe_ix ok rfl (xe_var 0) xe_int) xe_int) xe_int (nomark _))))) (xss_cons (xs_set (i := 2) ok sc_law_draw.nd rfl (Or.inl rfl) (xe_div ok (xe_ix ok rfl (xe_var 0) (xe_mod ok (xe_var 1) (xe_callB ok call_len (lenS rfl) (one_tame oLen_tame) (by rfl) T.n_len (by decide +kernel) (xa_cons ok (xe_var 0) xa_nil)))) xe_int))
  (xss_cons (xs_for ok (passes_of rfl) rfl (xi_range1 (by rfl) T.n_range (xa_cons ok (xe_mod ok (xe_div ok (xe_var 1) (xe_callB ok call_len (lenS rfl) (one_tame oLen_tame) (by rfl) T.n_len (by decide +kernel) (xa_cons ok (xe_var 0) xa_nil))) xe_int) xa_nil)) (xg_name (i := 3) sc_law_draw.nd rfl (Or.inl rfl)) (xss_one (xs_set (i := 2) ok sc_law_draw.nd rfl (Or.inl rfl) (xe_div ok (xe_var 2) xe_int))))
  (xss_one (xs_ret (xr_e ok (xe_mod ok (xe_var 2) xe_int)))))) xss_nil)
  (xss_cons (xs_set (i := 2) ok sc_law_draw.nd rfl (Or.inl rfl) xe_int)
  (xss_cons (xs_if ok (xt_cmp ok (op_neD (room64 hr)) (neS rfl) oEq_tame (xe_var 0) (xe_list ok xd_nil) (nomark _)) (xss_one (xs_set (i := 2) ok sc_law_draw.nd rfl (Or.inl rfl) (xe_add ok (xe_mul ok xe_int (xe_callB ok (cr_sum rfl) (sumS rfl) (one_tame oSum_tame) (by rfl) T.n_sum (by decide +kernel) (xa_cons ok (xe_var 0) xa_nil))) (xe_ix ok rfl (xe_var 0) (xe_mod ok (xe_var 1) (xe_callB ok call_len (lenS rfl) (one_tame oLen_tame) (by rfl) T.n_len (by decide +kernel) (xa_cons ok (xe_var 0) xa_nil))))))) xss_nil)
  (xss_cons (xs_set (i := 4) ok sc_law_draw.nd rfl (Or.inl rfl) (xe_add ok (xe_add ok (xe_mod ok (xe_var 2) xe_int) (xe_mul ok xe_int (xe_var 1))) xe_int))
  (xss_one (xs_ret (xr_e ok (xe_div ok (xe_mod ok (xe_mul ok (xe_mod ok (xe_mul ok (xe_var 4) (xe_var 4)) xe_int) (xe_var 4)) xe_int) xe_int)))))))), hm, F.kp, hb⟩
abbrev s_law_turned : Stmt := topS 28
theorem sc_law_turned : FnScope ["_law_row", "_law_found", "_law_high", "_law_low"] ["_law_row"] (defScope s_law_turned) := ⟨rfl, rfl, rfl, by decide +kernel, rfl, by decide +kernel, by decide +kernel⟩
theorem ok_law_turned {P : Program} {wd : World} {w : Wd} {base : Heap} (ok : w.Ok) (T : Tx w) (F : HasDef w "_law_turned" s_law_turned ["_law_row"]) : Dfn P wd w base "_law_turned" 1 1 m_law_turned := by
  obtain ⟨f, fd, F, hm, hb⟩ := F.ex
  exact ⟨f, fd, ["_law_row"], fn_okM F sc_law_turned rfl fun cdv A outer s H E hr =>
  (xss_cons (xs_set (i := 1) ok sc_law_turned.nd rfl (Or.inl rfl) (xe_list ok xd_nil))
  (xss_cons (xs_for ok (passes_of rfl) rfl (xi_range1 (by rfl) T.n_range (xa_cons ok (xe_callB ok call_len (lenS rfl) (one_tame oLen_tame) (by rfl) T.n_len (by decide +kernel) (xa_cons ok (xe_var 0) xa_nil)) xa_nil)) (xg_name (i := 2) sc_law_turned.nd rfl (Or.inl rfl)) (xss_one (xs_for ok (passes_of rfl) rfl (xi_range2 (by rfl) T.n_range (xa_cons ok (xe_add ok (xe_var 2) xe_int) (xa_cons ok (xe_callB ok call_len (lenS rfl) (one_tame oLen_tame) (by rfl) T.n_len (by decide +kernel) (xa_cons ok (xe_var 0) xa_nil)) xa_nil))) (xg_name (i := 3) sc_law_turned.nd rfl (Or.inl rfl)) (xss_one (xs_if ok (xt_cmp ok op_lt ltS oI_tame (xe_ix ok rfl (xe_var 0) (xe_var 3)) (xe_ix ok rfl (xe_var 0) (xe_var 2)) (nomark _)) (xss_one (xs_app 1 ok rfl (pv 1) (xm_e ok (xe_tup ok (xd_cons ok (xe_ix ok rfl (xe_var 0) (xe_var 3)) (xd_cons ok (xe_ix ok rfl (xe_var 0) (xe_var 2)) xd_nil)))))) xss_nil)))))
  (xss_one (xs_ret (xr_e ok (xe_callB ok call_sort2 (sortedS rfl) (one_tame oSorted_tame) (by rfl) T.n_sorted (by decide +kernel) (xa_cons ok (xe_var 1) xa_nil))))))), hm, F.kp, hb⟩
abbrev s_law_kinds : Stmt := topS 29
theorem sc_law_kinds : FnScope ["_law_e", "_law_found", "_law_word", "_law_fits"] ["_law_e"] (defScope s_law_kinds) := ⟨rfl, rfl, rfl, by decide +kernel, rfl, by decide +kernel, by decide +kernel⟩
theorem ok_law_kinds {P : Program} {wd : World} {w : Wd} {base : Heap} (ok : w.Ok) (T : Tx w) (F : HasDef w "_law_kinds" s_law_kinds ["_law_e"]) : Dfn P wd w base "_law_kinds" 1 1 m_law_kinds := by
  obtain ⟨f, fd, F, hm, hb⟩ := F.ex
  exact ⟨f, fd, ["_law_e"], fn_okM F sc_law_kinds rfl fun cdv A outer s H E hr =>
  (xss_cons (xs_set (i := 1) ok sc_law_kinds.nd rfl (Or.inl rfl) (xe_list ok (xd_cons ok (xe_tup ok (xd_cons ok xe_str (xd_cons ok (xe_isx ok rfl rfl T.S (by rfl) T.n_isinstance (by rfl) (by decide) (xe_var 0)) xd_nil))) (xd_cons ok (xe_tup ok (xd_cons ok xe_str (xd_cons ok (xe_isx ok rfl rfl T.S (by rfl) T.n_isinstance (by rfl) (by decide) (xe_var 0)) xd_nil))) (xd_cons ok (xe_tup ok (xd_cons ok xe_str (xd_cons ok (xe_isx ok rfl rfl T.S (by rfl) T.n_isinstance (by rfl) (by decide) (xe_var 0)) xd_nil))) xd_nil)))))
  (xss_cons (xs_set (i := 1) ok sc_law_kinds.nd rfl (Or.inl rfl) (xe_add ok (xe_var 1) (xe_list ok (xd_cons ok (xe_tup ok (xd_cons ok xe_str (xd_cons ok (xe_isx ok rfl rfl T.S (by rfl) T.n_isinstance (by rfl) (by decide) (xe_var 0)) xd_nil))) (xd_cons ok (xe_tup ok (xd_cons ok xe_str (xd_cons ok (xe_isx ok rfl rfl T.S (by rfl) T.n_isinstance (by rfl) (by decide) (xe_var 0)) xd_nil))) xd_nil)))))
  (xss_cons (xs_set (i := 1) ok sc_law_kinds.nd rfl (Or.inl rfl) (xe_add ok (xe_var 1) (xe_list ok (xd_cons ok (xe_tup ok (xd_cons ok xe_str (xd_cons ok (xe_isx ok rfl rfl T.S (by rfl) T.n_isinstance (by rfl) (by decide) (xe_var 0)) xd_nil))) (xd_cons ok (xe_tup ok (xd_cons ok xe_str (xd_cons ok (xe_isx ok rfl rfl T.S (by rfl) T.n_isinstance (by rfl) (by decide) (xe_var 0)) xd_nil))) xd_nil)))))
  (xss_cons (xs_set (i := 1) ok sc_law_kinds.nd rfl (Or.inl rfl) (xe_add ok (xe_var 1) (xe_list ok (xd_cons ok (xe_tup ok (xd_cons ok xe_str (xd_cons ok (xe_isx ok rfl rfl T.S (by rfl) T.n_isinstance (by rfl) (by decide) (xe_var 0)) xd_nil))) (xd_cons ok (xe_tup ok (xd_cons ok xe_str (xd_cons ok (xe_isx ok rfl rfl T.S (by rfl) T.n_isinstance (by rfl) (by decide) (xe_var 0)) xd_nil))) xd_nil)))))
  (xss_cons (xs_set (i := 1) ok sc_law_kinds.nd rfl (Or.inl rfl) (xe_add ok (xe_var 1) (xe_list ok (xd_cons ok (xe_tup ok (xd_cons ok xe_str (xd_cons ok (xe_isx ok rfl rfl T.S (by rfl) T.n_isinstance (by rfl) (by decide) (xe_var 0)) xd_nil))) (xd_cons ok (xe_tup ok (xd_cons ok xe_str (xd_cons ok (xe_isx ok rfl rfl T.S (by rfl) T.n_isinstance (by rfl) (by decide) (xe_var 0)) xd_nil))) xd_nil)))))
  (xss_cons (xs_set (i := 1) ok sc_law_kinds.nd rfl (Or.inl rfl) (xe_add ok (xe_var 1) (xe_list ok (xd_cons ok (xe_tup ok (xd_cons ok xe_str (xd_cons ok (xe_isx ok rfl rfl T.S (by rfl) T.n_isinstance (by rfl) (by decide) (xe_var 0)) xd_nil))) (xd_cons ok (xe_tup ok (xd_cons ok xe_str (xd_cons ok (xe_not ok (xe_isv ok rfl rfl T.S (by rfl) T.n_isinstance (by rfl) T.n_ValueError (by decide +kernel) (xe_var 0))) xd_nil))) xd_nil)))))
  (xss_frz 1 ok (xss_one (xs_ret (xr_e ok (xe_lc (own := [("_law_word", 2), ("_law_fits", 3)]) ok rfl sc_law_kinds.nd (by decide) (xi_list rfl (xe_var 1)) (blkOk_by (N := ["_law_e", "_law_found", "_law_word", "_law_fits"]) (sc := defScope s_law_kinds) (by decide +kernel)) (fun _ _ _ _ _ => (xg_tup rfl (xgs_cons (xg_name (i := 2) sc_law_kinds.nd rfl (Or.inl rfl)) (xgs_cons (xg_name (i := 3) sc_law_kinds.nd rfl (Or.inl rfl)) xgs_nil)) (gl_cons (gl_cons gl_nil)))) (fun _ _ _ _ _ => (xts_one (xt_val ok (xe_var 3)))) (fun _ _ _ _ _ => (xe_var 2))))))))))))), hm, F.kp, hb⟩
abbrev s_law_is_list : Stmt := topS 30
theorem sc_law_is_list : FnScope ["_law_found", "_law_due", "_law_one"] ["_law_found", "_law_due"] (defScope s_law_is_list) := ⟨rfl, rfl, rfl, by decide +kernel, rfl, by decide +kernel, by decide +kernel⟩
theorem ok_law_is_list {P : Program} {wd : World} {w : Wd} {base : Heap} (ok : w.Ok) (T : Tx w) (F : HasDef w "_law_is_list" s_law_is_list ["_law_found", "_law_due"]) : Dfn P wd w base "_law_is_list" 1 2 m_law_is_list := by
  obtain ⟨f, fd, F, hm, hb⟩ := F.ex
  exact ⟨f, fd, ["_law_found", "_law_due"], fn_okM F sc_law_is_list rfl fun cdv A outer s H E hr =>
  (xss_cons (xs_if ok (xt_w (xw_or ok (xt_not ok (xt_val ok (xe_isi "list" ok rfl (by rfl) T.n_isinstance (by rfl) T.n_list (by decide +kernel) (xe_var 0)))) (xw_or1 (xt_cmp ok (op_neD (room64 hr)) (neS rfl) oEq_tame (xe_var 0) (xe_var 1) (nomark _))))) (xss_one (xs_ret (xr_e ok xe_bl))) xss_nil)
  (xss_one (xs_ret (xr_e ok (xe_cmp ok (op_eqD (room64 hr)) (eqS rfl) oEq_tame (xe_lc (own := [("_law_one", 2)]) ok rfl sc_law_is_list.nd (by decide) (xi_list rfl (xe_var 0)) (blkOk_by (N := ["_law_found", "_law_due", "_law_one"]) (sc := defScope s_law_is_list) (by decide +kernel)) (fun _ _ _ _ _ => (xg_name (i := 2) sc_law_is_list.nd rfl (Or.inl rfl))) (fun _ _ _ _ _ => (xts_one (xt_w (xw_or ok (xt_val ok (xe_isi "bool" ok rfl (by rfl) T.n_isinstance (by rfl) T.n_bool (by decide +kernel) (xe_var 2))) (xw_or1 (xt_not ok (xt_val ok (xe_isi "int" ok rfl (by rfl) T.n_isinstance (by rfl) T.n_int (by decide +kernel) (xe_var 2))))))))) (fun _ _ _ _ _ => (xe_var 2))) (xe_list ok xd_nil) (nomark _)))))), hm, F.kp, hb⟩
abbrev s_law_walked : Stmt := topS 31
theorem sc_law_walked : FnScope ["_law_word", "_law_many", "_law_here", "_law_place"] ["_law_word", "_law_many"] (defScope s_law_walked) := ⟨rfl, rfl, rfl, by decide +kernel, rfl, by decide +kernel, by decide +kernel⟩
theorem ok_law_walked {P : Program} {wd : World} {w : Wd} {base : Heap} (ok : w.Ok) (T : Tx w) (F : HasDef w "_law_walked" s_law_walked ["_law_word", "_law_many"]) : Dfn P wd w base "_law_walked" 1 2 m_law_walked := by
  obtain ⟨f, fd, F, hm, hb⟩ := F.ex
  exact ⟨f, fd, ["_law_word", "_law_many"], fn_okM F sc_law_walked rfl fun cdv A outer s H E hr =>
  (xss_cons (xs_set (i := 2) ok sc_law_walked.nd rfl (Or.inl rfl) (xe_lr2 ok rfl (by rfl) T.n_list (by rfl) T.n_range xe_int (xe_add ok (xe_var 1) xe_int)))
  (xss_cons (xs_for ok (passes_of rfl) rfl (xi_list rfl (xe_var 0)) (xg_name (i := 3) sc_law_walked.nd rfl (Or.inl rfl)) (xss_one (xs_sla 2 ok (pv 2) (xo_some ok (xe_sub ok (xe_var 3) xe_int)) (xo_some ok (xe_add ok (xe_var 3) xe_int)) (xe_list ok (xd_cons ok (xe_ix ok rfl (xe_var 2) (xe_var 3)) (xd_cons ok (xe_ix ok rfl (xe_var 2) (xe_sub ok (xe_var 3) xe_int)) xd_nil))))))
  (xss_one (xs_ret (xr_var 2))))), hm, F.kp, hb⟩
abbrev s_law_told : Stmt := topS 32
theorem sc_law_told : FnScope ["_law_trail", "_law_way", "_law_place", "_law_refused", "_law_told_here", "_law_e"] ["_law_trail", "_law_way", "_law_place"] (defScope s_law_told) := ⟨rfl, rfl, rfl, by decide +kernel, rfl, by decide +kernel, by decide +kernel⟩
theorem ok_law_told {P : Program} {wd : World} {w : Wd} {base : Heap} (ok : w.Ok) (T : Tx w) (F : HasDef w "_law_told" s_law_told ["_law_trail", "_law_way", "_law_place"]) (D_Trail_swap : MthX P wd w base "Trail" "swap" 3 1 mo_Trail_swap m_Trail_swap) (D_Trail_back : MthX P wd w base "Trail" "back" 2 0 mo_Trail_back m_Trail_back) (D_law_kinds : Dfn P wd w base "_law_kinds" 1 1 m_law_kinds) : DfnO P wd w base "_law_told" "Trail" 4 2 mo_law_told := by
  obtain ⟨f, fd, F, hm, hb⟩ := F.ex
  exact ⟨f, fd, ["_law_trail", "_law_way", "_law_place"], fn_okO F sc_law_told rfl fun cdv A outer s H E hr =>
  (xss_cons (xs_set (i := 3) ok sc_law_told.nd rfl (Or.inl rfl) xe_non)
  (xss_cons (xs_set (i := 4) ok sc_law_told.nd rfl (Or.inl rfl) xe_non)
  (xss_cons (xs_tryM (j := 4) (i := 5) (k := 3) ok rfl rfl T.S rfl rfl rfl sc_law_told.nd rfl (Or.inl rfl) (.inl rfl) rfl rfl rfl (Or.inl rfl) (.inl rfl) (by rfl) (fun W pn xe tk => (xm_ifX ok (xt_cmp ok (op_eqD (room64 hr)) (eqS rfl) oEq_tame (xe_var 1) xe_str (nomark _)) (xm_methX0 0 ok rfl rfl (D_Trail_back.mono (by decide)) hr tk (pv 0)) (xm_methX 0 ok rfl rfl (D_Trail_swap.mono (by decide)) hr tk (pv 0) (xa_cons ok (xe_var 2) xa_nil)))))
  (xss_one (xs_retS ok (xe_good (xe_if ok (xt_cmp ok op_isN isNS oIsN_tame (xe_var 3) xe_non (nomark _)) (xe_list ok (xd_cons ok xe_str (xd_cons ok (xe_var 4) xd_nil))) (xe_call ok rfl rfl (D_law_kinds.mono (by decide)) hr (takes_of rfl rfl rfl rfl) (by rfl) (xa_cons ok (xe_var 3) xa_nil))))))))), hm, F.kp, hb⟩
abbrev s_law_right : Stmt := topS 33
theorem sc_law_right : FnScope ["_law_trail", "_law_past", "_law_many", "_law_row", "_law_turn", "_law_found", "_law_told_here"] ["_law_trail", "_law_past", "_law_many"] (defScope s_law_right) := ⟨rfl, rfl, rfl, by decide +kernel, rfl, by decide +kernel, by decide +kernel⟩
theorem ok_law_right {P : Program} {wd : World} {w : Wd} {base : Heap} (ok : w.Ok) (T : Tx w) (F : HasDef w "_law_right" s_law_right ["_law_trail", "_law_past", "_law_many"]) (D_Trail_row : MthR P wd w base "Trail" "row" 1 0 m_Trail_row) (D_Trail_places : MthR P wd w base "Trail" "places" 1 0 m_Trail_places) (D_Trail_is_short : MthR P wd w base "Trail" "is_short" 5 0 m_Trail_is_short) (D_law_turned : Dfn P wd w base "_law_turned" 1 1 m_law_turned) (D_law_is_list : Dfn P wd w base "_law_is_list" 1 2 m_law_is_list) (D_law_walked : Dfn P wd w base "_law_walked" 1 2 m_law_walked) : Dfn P wd w base "_law_right" 6 3 m_law_right := by
  obtain ⟨f, fd, F, hm, hb⟩ := F.ex
  exact ⟨f, fd, ["_law_trail", "_law_past", "_law_many"], fn_okM F sc_law_right rfl fun cdv A outer s H E hr =>
  (xss_cons (xs_set (i := 3) ok sc_law_right.nd rfl (Or.inl rfl) (xe_call ok rfl rfl (D_law_walked.mono (by decide)) hr (takes_of rfl rfl rfl rfl) (by rfl) (xa_cons ok (xe_var 1) (xa_cons ok (xe_var 2) xa_nil))))
  (xss_cons (xs_for ok (passes_of rfl) rfl (xi_range1 (by rfl) T.n_range (xa_cons ok xe_int xa_nil)) (xg_name (i := 4) sc_law_right.nd rfl (Or.inl rfl)) (xss_cons (xs_set (i := 5) ok sc_law_right.nd rfl (Or.inl rfl) (xe_methR 0 ok rfl rfl (D_Trail_row.mono (by decide)) hr (pv 0)))
  (xss_cons (xs_set (i := 6) ok sc_law_right.nd rfl (Or.inl rfl) (xe_methR 0 ok rfl rfl (D_Trail_places.mono (by decide)) hr (pv 0)))
  (xss_cons (xs_if ok (xt_w (xw_or ok (xt_not ok (xt_val ok (xe_call ok rfl rfl (D_law_is_list.mono (by decide)) hr (takes_of rfl rfl rfl rfl) (by rfl) (xa_cons ok (xe_var 5) (xa_cons ok (xe_var 3) xa_nil))))) (xw_or1 (xt_not ok (xt_val ok (xe_call ok rfl rfl (D_law_is_list.mono (by decide)) hr (takes_of rfl rfl rfl rfl) (by rfl) (xa_cons ok (xe_var 6) (xa_cons ok (xe_var 1) xa_nil)))))))) (xss_one (xs_ret (xr_e ok xe_bl))) xss_nil)
  (xss_cons (xs_app 5 ok rfl (pv 5) (xm_e ok xe_int))
  (xss_one (xs_app 6 ok rfl (pv 6) (xm_e ok xe_int))))))))
  (xss_one (xs_ret (xr_e ok (xe_cmp ok (op_eqD (room64 hr)) (eqS rfl) oEq_tame (xe_callB ok call_repB repBS (one_tame oRepB_tame) (by rfl) T.n_repr (by decide +kernel) (xa_cons ok (xe_methR 0 ok rfl rfl (D_Trail_is_short.mono (by decide)) hr (pv 0)) xa_nil)) (xe_callB ok call_repB repBS (one_tame oRepB_tame) (by rfl) T.n_repr (by decide +kernel) (xa_cons ok (xe_cmp ok (op_eqD (room64 hr)) (eqS rfl) oEq_tame (xe_callB ok call_len (lenS rfl) (one_tame oLen_tame) (by rfl) T.n_len (by decide +kernel) (xa_cons ok (xe_var 1) xa_nil)) (xe_callB ok call_len (lenS rfl) (one_tame oLen_tame) (by rfl) T.n_len (by decide +kernel) (xa_cons ok (xe_call ok rfl rfl (D_law_turned.mono (by decide)) hr (takes_of rfl rfl rfl rfl) (by rfl) (xa_cons ok (xe_var 3) xa_nil)) xa_nil)) (nomark _)) xa_nil)) (nomark _))))))), hm, F.kp, hb⟩
abbrev s_law_long_right : Stmt := topS 34
theorem sc_law_long_right : FnScope ["_law_script", "_law_many", "_law_trail", "_law_turn", "_law_past", "_law_place", "_law_refused", "_law_told_here", "_law_e"] ["_law_script"] (defScope s_law_long_right) := ⟨rfl, rfl, rfl, by decide +kernel, rfl, by decide +kernel, by decide +kernel⟩
theorem ok_law_long_right {P : Program} {wd : World} {w : Wd} {base : Heap} (ok : w.Ok) (T : Tx w) (F : HasDef w "_law_long_right" s_law_long_right ["_law_script"]) (D_Trail___init__ : Mkr P wd w base "Trail" 4 1 mo_Trail___init__) (D_Trail_swap : MthX P wd w base "Trail" "swap" 3 1 mo_Trail_swap m_Trail_swap) (D_Trail_row : MthR P wd w base "Trail" "row" 1 0 m_Trail_row) (D_Trail_places : MthR P wd w base "Trail" "places" 1 0 m_Trail_places) (D_Trail_is_short : MthR P wd w base "Trail" "is_short" 5 0 m_Trail_is_short) (D_law_draw : Dfn P wd w base "_law_draw" 1 2 m_law_draw) (D_law_walked : Dfn P wd w base "_law_walked" 1 2 m_law_walked) : Dfn P wd w base "_law_long_right" 6 1 m_law_long_right := by
  obtain ⟨f, fd, F, hm, hb⟩ := F.ex
  exact ⟨f, fd, ["_law_script"], fn_okM F sc_law_long_right rfl fun cdv A outer s H E hr =>
  (xss_cons (xs_set (i := 1) ok sc_law_long_right.nd rfl (Or.inr rfl) (xe_add ok xe_int (xe_mod ok (xe_div ok (xe_call ok rfl rfl (D_law_draw.mono (by decide)) hr (takes_of rfl rfl rfl rfl) (by rfl) (xa_cons ok (xe_var 0) (xa_cons ok xe_int xa_nil))) xe_int) xe_int)))
  (xss_mk1 (i := 2) ok rfl rfl (D_Trail___init__.mono (by decide : _ ≤ 4)) hr sc_law_long_right.nd rfl (Or.inl rfl) (by first | exact .inl rfl | exact .inr rfl) (by rfl) (xa_cons ok (xe_var 1) xa_nil)
  (xss_cons (xs_setLc (i := 4) (own := [("_law_turn", 3)]) ok rfl sc_law_long_right.nd rfl rfl (sw_true rfl rfl rfl (by decide +kernel)) (by decide) (xi_range1 (by rfl) T.n_range (xa_cons ok xe_int xa_nil)) (blkOk_by (N := ["_law_script", "_law_many", "_law_trail", "_law_turn", "_law_past", "_law_place", "_law_refused", "_law_told_here", "_law_e"]) (sc := defScope s_law_long_right) (by decide +kernel)) (fun _ _ _ _ _ => (xg_name (i := 3) sc_law_long_right.nd rfl (Or.inl rfl))) (fun _ _ _ _ _ => xts_nil) (fun _ _ _ _ _ => (xe_add ok xe_int (xe_mod ok (xe_var 3) (xe_sub ok (xe_var 1) xe_int)))))
  (xss_frz 4 ok (xss_cons (xs_for ok (passes_of rfl) rfl (xi_list rfl (xe_var 4)) (xg_name (i := 5) sc_law_long_right.nd rfl (Or.inl rfl)) (xss_one (xs_exprM (xm_meth 2 ok rfl rfl (D_Trail_swap.mth.mono (by decide)) hr (pv 2) (xa_cons ok (xe_var 5) xa_nil)))))
  (xss_cons (xs_set (i := 6) ok sc_law_long_right.nd rfl (Or.inl rfl) xe_non)
  (xss_cons (xs_set (i := 7) ok sc_law_long_right.nd rfl (Or.inl rfl) xe_non)
  (xss_cons (xs_try (j := 7) (i := 8) (k := 6) ok rfl rfl T.S rfl rfl rfl sc_law_long_right.nd rfl (Or.inl rfl) (.inl rfl) rfl rfl rfl (Or.inl rfl) (.inl rfl) (by rfl) (fun W pn xe tk => (xe_methR 2 ok rfl rfl (D_Trail_is_short.mono (by decide)) hr (pv 2))))
  (xss_one (xs_ret (xr_e ok (xe_and ok (xe_cmp ok op_isN isNS oIsN_tame (xe_var 6) xe_non (nomark _)) (xe_and ok (xe_cmp ok op_isBl isBS oIsB_tame (xe_var 7) xe_bl (nomark _)) (xe_and ok (xe_cmp ok (op_eqD (room64 hr)) (eqS rfl) oEq_tame (xe_methR 2 ok rfl rfl (D_Trail_places.mono (by decide)) hr (pv 2)) (xe_var 4) (nomark _)) (xe_one (xe_cmp ok (op_eqD (room64 hr)) (eqS rfl) oEq_tame (xe_methR 2 ok rfl rfl (D_Trail_row.mono (by decide)) hr (pv 2)) (xe_call ok rfl rfl (D_law_walked.mono (by decide)) hr (takes_of rfl rfl rfl rfl) (by rfl) (xa_cons ok (xe_var 4) (xa_cons ok (xe_var 1) xa_nil))) (nomark _))))))))))))))))), hm, F.kp, hb⟩
abbrev s_law : Stmt := topS 35
theorem sc_law : FnScope ["_law_script", "_law_k", "_law_counts", "_law_many", "_law_trails", "_law_pasts", "_law_cell", "_law_number", "_law_which", "_law_past", "_law_way", "_law_place", "_law_due", "_law_found", "_law_odd", "0a", "0b"] ["_law_script"] (defScope s_law) := ⟨rfl, rfl, rfl, by decide +kernel, rfl, by decide +kernel, by decide +kernel⟩
theorem okL {P : Program} {wd : World} {w : Wd} {base : Heap} (ok : w.Ok) (T : Tx w) {f : Addr} {fd : FuncData} (F : FunD w.K "law" "law" (defArgs s_law) (defBody s_law) (defScope s_law) [] [] f fd) (D_Trail___init__ : Mkr P wd w base "Trail" 4 1 mo_Trail___init__) (D_law_draw : Dfn P wd w base "_law_draw" 1 2 m_law_draw) (D_law_told : DfnO P wd w base "_law_told" "Trail" 4 2 mo_law_told) (D_law_right : Dfn P wd w base "_law_right" 6 3 m_law_right) (D_law_long_right : Dfn P wd w base "_law_long_right" 6 1 m_law_long_right) : FnOk P wd w.K w.mg base (L2.CX P wd) 7 f fd ["_law_script"] (spM w 1 m_law) :=
  fn_okM F sc_law rfl fun cdv A outer s H E hr =>
  (xss_cons (xs_setLc (i := 2) (own := [("_law_k", 1)]) ok rfl sc_law.nd rfl rfl (sw_true rfl rfl rfl (by decide +kernel)) (by decide) (xi_range1 (by rfl) T.n_range (xa_cons ok xe_int xa_nil)) (blkOk_by (N := ["_law_script", "_law_k", "_law_counts", "_law_many", "_law_trails", "_law_pasts", "_law_cell", "_law_number", "_law_which", "_law_past", "_law_way", "_law_place", "_law_due", "_law_found", "_law_odd", "0a", "0b"]) (sc := defScope s_law) (by decide +kernel)) (fun _ _ _ _ _ => (xg_name (i := 1) sc_law.nd rfl (Or.inl rfl))) (fun _ _ _ _ _ => xts_nil) (fun _ _ _ _ _ => (xe_add ok xe_int (xe_mod ok (xe_div ok (xe_call ok rfl rfl (D_law_draw.mono (by decide)) hr takes0 (by rfl) (xa_cons ok (xe_var 0) (xa_cons ok (xe_add ok xe_int (xe_var 1)) xa_nil))) xe_int) xe_int))))
  (xss_frz 2 ok (xss_mk2 (t := 4) (own := [("_law_many", 3)]) 15 ok T.seto rfl rfl (D_Trail___init__.mono (by decide : _ ≤ 5)) hr (by decide) rfl rfl (by rfl) (by rfl) rfl sc_law.nd rfl rfl (sw_true rfl rfl rfl (by decide +kernel)) (by decide) (xi_list rfl (xe_var 2)) (blkOk_by (N := ["_law_script", "_law_k", "_law_counts", "_law_many", "_law_trails", "_law_pasts", "_law_cell", "_law_number", "_law_which", "_law_past", "_law_way", "_law_place", "_law_due", "_law_found", "_law_odd", "0a", "0b"]) (sc := defScope s_law) (by decide +kernel)) (fun _ _ _ _ _ => (xg_name (i := 3) sc_law.nd rfl (Or.inl rfl))) (fun _ _ _ _ _ => by rfl) (fun _ _ _ _ _ => (xa_cons ok (xe_var 3) xa_nil))
  (xss_cons (xs_set (i := 5) ok sc_law.nd rfl (Or.inl rfl) (xe_list ok (xd_cons ok (xe_list ok xd_nil) (xd_cons ok (xe_list ok xd_nil) xd_nil))))
  (xss_cons (xs_for ok (passes_of rfl) rfl (xi_enum rfl (by rfl) T.n_enumerate (xa_cons ok (xe_add ok (xe_slice ok rfl (xe_var 0) xo_none (xo_some ok xe_int)) (xe_list ok (xd_cons ok xe_int xd_nil))) xa_nil)) (xg_tup rfl (xgs_cons (xg_name (i := 1) sc_law.nd rfl (Or.inl rfl)) (xgs_cons (xg_name (i := 6) sc_law.nd rfl (Or.inl rfl)) xgs_nil)) (gl_cons (gl_cons gl_nil))) (xss_cons (xs_set (i := 7) ok sc_law.nd rfl (Or.inl rfl) (xe_div ok (xe_mod ok (xe_mul ok (xe_add ok (xe_add ok (xe_mod ok (xe_var 6) xe_int) (xe_mul ok xe_int (xe_var 1))) xe_int) xe_int) xe_int) xe_int))
  (xss_cons (xs_if ok (xt_w (xw_and ok (xt_cmp ok (op_neD (room64 hr)) (neS rfl) oEq_tame (xe_var 0) (xe_list ok xd_nil) (nomark _)) (xw_and1 (xt_cmp ok (op_eqD (room64 hr)) (eqS rfl) oEq_tame (xe_mod ok (xe_ix ok rfl (xe_var 0) xe_int) xe_int) xe_int (nomark _))))) (xss_one (xs_set (i := 7) ok sc_law.nd rfl (Or.inl rfl) (xe_mod ok (xe_div ok (xe_var 6) xe_int) (xe_pow ok xe_int xe_int)))) xss_nil)
  (xss_cons (xs_set (i := 8) ok sc_law.nd rfl (Or.inl rfl) (xe_div ok (xe_mod ok (xe_var 7) xe_int) xe_int))
  (xss_cons (xs_set (i := 3) ok sc_law.nd rfl (Or.inl rfl) (xe_ix ok rfl (xe_var 2) (xe_var 8)))
  (xss_cons (xs_set (i := 9) ok sc_law.nd rfl (Or.inl rfl) (xe_ix ok rfl (xe_var 5) (xe_var 8)))
  (xss_cons (xs_set (i := 10) ok sc_law.nd rfl (Or.inl rfl) (xe_mod ok (xe_div ok (xe_var 7) xe_int) xe_int))
  (xss_cons (xs_set (i := 11) ok sc_law.nd rfl (Or.inl rfl) (xe_add ok xe_int (xe_mod ok (xe_div ok (xe_var 7) xe_int) (xe_callB ok (call_max2 rfl) max2S max2_tame (by rfl) T.n_max (by decide +kernel) (xa_cons ok xe_int (xa_cons ok (xe_sub ok (xe_var 3) xe_int) xa_nil))))))
  (xss_cons (xs_if ok (xt_cmp ok (op_eqD (room64 hr)) (eqS rfl) oEq_tame (xe_var 10) xe_int (nomark _)) (xss_cons (xs_set (i := 12) ok sc_law.nd rfl (Or.inl rfl) (xe_if ok (xt_cmp ok (op_eqD (room64 hr)) (eqS rfl) oEq_tame (xe_var 9) (xe_list ok xd_nil) (nomark _)) (xe_list ok (xd_cons ok xe_str xd_nil)) (xe_list ok (xd_cons ok xe_str (xd_cons ok (xe_ix ok rfl (xe_var 9) (xe_neg ok xe_int)) xd_nil)))))
  (xss_cons (xs_setM (i := 13) ok sc_law.nd rfl (Or.inl rfl) (xm_callG 15 ok T.seto rfl rfl (D_law_told.mono (by decide)) hr (by rfl) (pv 4) (xe_var 8) (fun _ _ => by with_unfolding_all rfl) (xa_cons ok xe_str (xa_cons ok xe_non xa_nil))))
  (xss_one (xs_itm 5 ok (pv 5) (xe_var 8) (xe_slice ok rfl (xe_var 9) xo_none (xo_some ok (xe_neg ok xe_int))))))) (xss_one (xs_if ok (xt_w (xw_or ok (xt_cmp ok (op_eqD (room64 hr)) (eqS rfl) oEq_tame (xe_var 10) xe_int (nomark _)) (xw_or1 (xt_cmp ok (op_eqD (room64 hr)) (eqS rfl) oEq_tame (xe_var 3) xe_int (nomark _))))) (xss_cons (xs_set (i := 14) ok sc_law.nd rfl (Or.inl rfl) (xe_ix ok rfl (xe_list ok (xd_cons ok xe_int (xd_cons ok (xe_var 3) (xd_cons ok (xe_neg ok xe_int) (xd_cons ok xe_bl (xd_cons ok xe_non (xd_cons ok xe_str (xd_cons ok (xe_list ok (xd_cons ok xe_int xd_nil)) (xd_cons ok (xe_pow ok xe_int xe_int) (xd_cons ok (xe_add ok (xe_var 3) (xe_var 7)) xd_nil)))))))))) (xe_mod ok (xe_div ok (xe_var 7) xe_int) xe_int)))
  (xss_cons (xs_set (i := 12) ok sc_law.nd rfl (Or.inl rfl) (xe_list ok (xd_cons ok xe_str xd_nil)))
  (xss_one (xs_setM (i := 13) ok sc_law.nd rfl (Or.inl rfl) (xm_callG 15 ok T.seto rfl rfl (D_law_told.mono (by decide)) hr (by rfl) (pv 4) (xe_var 8) (fun _ _ => by with_unfolding_all rfl) (xa_cons ok xe_str (xa_cons ok (xe_var 14) xa_nil))))))) (xss_cons (xs_set (i := 12) ok sc_law.nd rfl (Or.inl rfl) (xe_list ok (xd_cons ok xe_str (xd_cons ok xe_non xd_nil))))
  (xss_cons (xs_setM (i := 13) ok sc_law.nd rfl (Or.inl rfl) (xm_callG 15 ok T.seto rfl rfl (D_law_told.mono (by decide)) hr (by rfl) (pv 4) (xe_var 8) (fun _ _ => by with_unfolding_all rfl) (xa_cons ok xe_str (xa_cons ok (xe_var 11) xa_nil))))
  (xss_one (xs_itm 5 ok (pv 5) (xe_var 8) (xe_add ok (xe_var 9) (xe_list ok (xd_cons ok (xe_var 11) xd_nil))))))))))
  (xss_cons (xs_if ok (xt_w (xw_or ok (xt_cmp ok (op_neD (room64 hr)) (neS rfl) oEq_tame (xe_var 13) (xe_var 12) (nomark _)) (xw_or1 (xt_val ok (xe_isi "bool" ok rfl (by rfl) T.n_isinstance (by rfl) T.n_bool (by decide +kernel) (xe_ix ok rfl (xe_var 13) (xe_neg ok xe_int))))))) (xss_one (xs_ret (xr_e ok xe_bl))) xss_nil)
  (xss_one (xs_if ok (xt_not ok (xt_val ok (xe_callG 15 ok T.seto rfl rfl (D_law_right.mono (by decide)) hr (by rfl) (pv 4) (xe_mod ok (xe_var 1) xe_int) (fun _ _ => by with_unfolding_all rfl) (xa_cons ok (xe_ix ok rfl (xe_var 5) (xe_mod ok (xe_var 1) xe_int)) (xa_cons ok (xe_ix ok rfl (xe_var 2) (xe_mod ok (xe_var 1) xe_int)) xa_nil))))) (xss_one (xs_ret (xr_e ok xe_bl))) xss_nil))))))))))))
  (xss_cons (xs_if ok (xt_w (xw_or ok (xt_not ok (xt_val ok (xe_callG 15 ok T.seto rfl rfl (D_law_right.mono (by decide)) hr (by rfl) (pv 4) xe_int (fun _ _ => by with_unfolding_all rfl) (xa_cons ok (xe_ix ok rfl (xe_var 5) xe_int) (xa_cons ok (xe_ix ok rfl (xe_var 2) xe_int) xa_nil))))) (xw_or1 (xt_not ok (xt_val ok (xe_callG 15 ok T.seto rfl rfl (D_law_right.mono (by decide)) hr (by rfl) (pv 4) xe_int (fun _ _ => by with_unfolding_all rfl) (xa_cons ok (xe_ix ok rfl (xe_var 5) xe_int) (xa_cons ok (xe_ix ok rfl (xe_var 2) xe_int) xa_nil)))))))) (xss_one (xs_ret (xr_e ok xe_bl))) xss_nil)
  (xss_one (xs_ret (xr_e ok (xe_call ok rfl rfl (D_law_long_right.mono (by decide)) hr (takes_of rfl rfl rfl rfl) (by rfl) (xa_cons ok (xe_var 0) xa_nil)))))))))))
end Vs
end
section
namespace Vs
open PySem PySem.Spec PyProof.Rows L2
def d_is_among : He.DefD := ⟨("is_among", none), "is_among", "is_among", defArgs s_is_among, defBody s_is_among, defScope s_is_among, [], []⟩
def d_need_many : He.DefD := ⟨("need_many", none), "need_many", "need_many", defArgs s_need_many, defBody s_need_many, defScope s_need_many, [], []⟩
def d_first_row : He.DefD := ⟨("first_row", none), "first_row", "first_row", defArgs s_first_row, defBody s_first_row, defScope s_first_row, [], []⟩
def d_is_place : He.DefD := ⟨("is_place", none), "is_place", "is_place", defArgs s_is_place, defBody s_is_place, defScope s_is_place, [], []⟩
def d_exchanged : He.DefD := ⟨("exchanged", none), "exchanged", "exchanged", defArgs s_exchanged, defBody s_exchanged, defScope s_exchanged, [], []⟩
def d_goes_up : He.DefD := ⟨("goes_up", none), "goes_up", "goes_up", defArgs s_goes_up, defBody s_goes_up, defScope s_goes_up, [], []⟩
def d_Trail___init__ : He.DefD := ⟨("Trail", some "__init__"), "__init__", "Trail.__init__", defArgs s_Trail___init__, defBody s_Trail___init__, defScope s_Trail___init__, [], []⟩
def d_Trail_swap : He.DefD := ⟨("Trail", some "swap"), "swap", "Trail.swap", defArgs s_Trail_swap, defBody s_Trail_swap, defScope s_Trail_swap, [], []⟩
def d_Trail_back : He.DefD := ⟨("Trail", some "back"), "back", "Trail.back", defArgs s_Trail_back, defBody s_Trail_back, defScope s_Trail_back, [], []⟩
def d_Trail_row : He.DefD := ⟨("Trail", some "row"), "row", "Trail.row", defArgs s_Trail_row, defBody s_Trail_row, defScope s_Trail_row, [], []⟩
def d_Trail_places : He.DefD := ⟨("Trail", some "places"), "places", "Trail.places", defArgs s_Trail_places, defBody s_Trail_places, defScope s_Trail_places, [], []⟩
def d_Trail_is_short : He.DefD := ⟨("Trail", some "is_short"), "is_short", "Trail.is_short", defArgs s_Trail_is_short, defBody s_Trail_is_short, defScope s_Trail_is_short, [], []⟩
def d_law_draw : He.DefD := ⟨("_law_draw", none), "_law_draw", "_law_draw", defArgs s_law_draw, defBody s_law_draw, defScope s_law_draw, [], []⟩
def d_law_turned : He.DefD := ⟨("_law_turned", none), "_law_turned", "_law_turned", defArgs s_law_turned, defBody s_law_turned, defScope s_law_turned, [], []⟩
def d_law_kinds : He.DefD := ⟨("_law_kinds", none), "_law_kinds", "_law_kinds", defArgs s_law_kinds, defBody s_law_kinds, defScope s_law_kinds, [], []⟩
def d_law_is_list : He.DefD := ⟨("_law_is_list", none), "_law_is_list", "_law_is_list", defArgs s_law_is_list, defBody s_law_is_list, defScope s_law_is_list, [], []⟩
def d_law_walked : He.DefD := ⟨("_law_walked", none), "_law_walked", "_law_walked", defArgs s_law_walked, defBody s_law_walked, defScope s_law_walked, [], []⟩
def d_law_told : He.DefD := ⟨("_law_told", none), "_law_told", "_law_told", defArgs s_law_told, defBody s_law_told, defScope s_law_told, [], []⟩
def d_law_right : He.DefD := ⟨("_law_right", none), "_law_right", "_law_right", defArgs s_law_right, defBody s_law_right, defScope s_law_right, [], []⟩
def d_law_long_right : He.DefD := ⟨("_law_long_right", none), "_law_long_right", "_law_long_right", defArgs s_law_long_right, defBody s_law_long_right, defScope s_law_long_right, [], []⟩
def d_law : He.DefD := ⟨("law", none), "law", "law", defArgs s_law, defBody s_law, defScope s_law, [], []⟩
def fnL : List He.DefD := [d_is_among, d_need_many, d_first_row, d_is_place, d_exchanged, d_goes_up, d_Trail___init__, d_Trail_swap, d_Trail_back, d_Trail_row, d_Trail_places, d_Trail_is_short, d_law_draw, d_law_turned, d_law_kinds, d_law_is_list, d_law_walked, d_law_told, d_law_right, d_law_long_right, d_law]
def faL : List He.Fa := [.free "ValueError", .free "bool", .free "enumerate", .free "int", .free "isinstance", .free "len", .free "list", .free "max", .free "range", .free "repr", .free "sorted", .free "sum", .int "MOST_THINGS" 12, .glo "BadMany", .exc "BadMany", .glo "BadPlace", .exc "BadPlace", .glo "NothingDone", .exc "NothingDone", .glo "Trail", .cls "Trail", .noat "Trail" "now", .noat "Trail" "past", .mkr "Trail", .meth "Trail" "swap", .meth "Trail" "back", .meth "Trail" "row", .meth "Trail" "places", .meth "Trail" "is_short", .glo "is_among", .glo "need_many", .glo "first_row", .glo "is_place", .glo "exchanged", .glo "goes_up", .glo "_law_draw", .glo "_law_turned", .glo "_law_kinds", .glo "_law_is_list", .glo "_law_walked", .glo "_law_told", .glo "_law_right", .glo "_law_long_right", .glo "law"]
def nm0 : List Str := ["is_among", "need_many", "first_row", "is_place", "exchanged", "goes_up", "_law_draw", "_law_turned", "_law_kinds", "_law_is_list", "_law_walked", "_law_told", "_law_right", "_law_long_right", "SwapError", "BadMany", "BadRow", "Unlike", "BadPairs", "BadOrder", "BadPlace", "BadWord", "BadMove", "NotShort", "NotAlike", "NothingDone", "BadNote", "Trail", "MOST_THINGS"]
def namesL : List Str := nm0
abbrev RL : PySem.W.OpenRow := PySem.W.OpenLaw.row PySem.Challenge.rw_swaplattice_k12_trails
abbrev hkL : PySem.W.Hook := hookV 6 faL fnL (exB2 exN)
def obL (s : PySem.W.SharedT) : He.AlD × Bool := obsV 6 faL fnL (exB2 exN) (HandSHeadRun.getT s)
theorem obL_eq (s : PySem.W.SharedT) : obL s = hkL.obs s.abs := obsV_eq (HandSHeadRun.getT_eq s)
theorem runL (wd : World) : HandSHeadRun.RunEq RL (PySem.W.view RL.prog [35]) hkL obL 8000 namesL wd := by
  intro os
  kernel_rfl
abbrev wL (K : PySem.W.Frag) (mg : Str → Option Value) : Wd := wY K mg
theorem okW {K : PySem.W.Frag} {mg : Str → Option Value} : (wL K mg).Ok := wY_ok
theorem factsL {P : Program} {wd : World} {K : PySem.W.Frag} {h : Heap} {mg : Str → Option Value} {f : Addr} (X : K.In h) (G : h.Ns mainGlobals mg) (hfa : mg ("law" : Str) = some (.ref f)) (c : He.SaysD faL fnL K) (cx : (exB2 exN) K = true) :
    ∃ fd : FuncData, (∀ (s : Shared) (v : Value), BindsTo s fd ⟨[v], []⟩ [("_law_script", v)]) ∧ ∀ base : Heap, K.In base → base.Ns mainGlobals mg → FnOk P wd K mg base (L2.CX P wd) 7 f fd ["_law_script"] (spM (wL K mg) 1 m_law) := by
  have K_Trail : Kc (wL K mg) "Trail" ["now", "past"] := ⟨_, He.glo_ok X G (c.fact 19 (f := .glo "Trail") rfl), He.cls_ok (c.fact 20 (f := .cls "Trail") rfl), fun f hf => by
    simp only [List.mem_cons, List.not_mem_nil, or_false] at hf
    rcases hf with rfl | rfl
    · exact He.noat_ok (c.fact 21 (f := .noat "Trail" "now") rfl)
    · exact He.noat_ok (c.fact 22 (f := .noat "Trail" "past") rfl)⟩
  have T : Tx (wL K mg) := ⟨He.free_ok X G (c.fact 0 (f := .free "ValueError") rfl), He.free_ok X G (c.fact 1 (f := .free "bool") rfl), He.free_ok X G (c.fact 2 (f := .free "enumerate") rfl), He.free_ok X G (c.fact 3 (f := .free "int") rfl), He.free_ok X G (c.fact 4 (f := .free "isinstance") rfl), He.free_ok X G (c.fact 5 (f := .free "len") rfl), He.free_ok X G (c.fact 6 (f := .free "list") rfl), He.free_ok X G (c.fact 7 (f := .free "max") rfl), He.free_ok X G (c.fact 8 (f := .free "range") rfl), He.free_ok X G (c.fact 9 (f := .free "repr") rfl), He.free_ok X G (c.fact 10 (f := .free "sorted") rfl), He.free_ok X G (c.fact 11 (f := .free "sum") rfl), He.int_ok X G (c.fact 12 (f := .int "MOST_THINGS" 12) rfl), xc_of (He.glo_ok X G (c.fact 13 (f := .glo "BadMany") rfl)) (He.exc_ok (c.fact 14 (f := .exc "BadMany") rfl)), xc_of (He.glo_ok X G (c.fact 15 (f := .glo "BadPlace") rfl)) (He.exc_ok (c.fact 16 (f := .exc "BadPlace") rfl)), xc_of (He.glo_ok X G (c.fact 17 (f := .glo "NothingDone") rfl)) (He.exc_ok (c.fact 18 (f := .exc "NothingDone") rfl)), Xs.ofY X G cx, rfl, K_Trail⟩
  have H_is_among : HasDef (wL K mg) "is_among" s_is_among ["thing", "least", "most"] := by
    obtain ⟨fd, F⟩ := c.def_ 0 (d := d_is_among) rfl
    exact ⟨_, fd, F, He.glo_ok X G (c.fact 29 (f := .glo "is_among") rfl), FunD.bindsN (ps := ["thing", "least", "most"]) F fun _ _ _ _ _ _ us hl => match us, hl with | [_, _, _], _ => rfl⟩
  have H_need_many : HasDef (wL K mg) "need_many" s_need_many ["thing"] := by
    obtain ⟨fd, F⟩ := c.def_ 1 (d := d_need_many) rfl
    exact ⟨_, fd, F, He.glo_ok X G (c.fact 30 (f := .glo "need_many") rfl), FunD.bindsN (ps := ["thing"]) F fun _ _ _ _ _ _ us hl => match us, hl with | [_], _ => rfl⟩
  have H_first_row : HasDef (wL K mg) "first_row" s_first_row ["many"] := by
    obtain ⟨fd, F⟩ := c.def_ 2 (d := d_first_row) rfl
    exact ⟨_, fd, F, He.glo_ok X G (c.fact 31 (f := .glo "first_row") rfl), FunD.bindsN (ps := ["many"]) F fun _ _ _ _ _ _ us hl => match us, hl with | [_], _ => rfl⟩
  have H_is_place : HasDef (wL K mg) "is_place" s_is_place ["thing", "many"] := by
    obtain ⟨fd, F⟩ := c.def_ 3 (d := d_is_place) rfl
    exact ⟨_, fd, F, He.glo_ok X G (c.fact 32 (f := .glo "is_place") rfl), FunD.bindsN (ps := ["thing", "many"]) F fun _ _ _ _ _ _ us hl => match us, hl with | [_, _], _ => rfl⟩
  have H_exchanged : HasDef (wL K mg) "exchanged" s_exchanged ["row", "place"] := by
    obtain ⟨fd, F⟩ := c.def_ 4 (d := d_exchanged) rfl
    exact ⟨_, fd, F, He.glo_ok X G (c.fact 33 (f := .glo "exchanged") rfl), FunD.bindsN (ps := ["row", "place"]) F fun _ _ _ _ _ _ us hl => match us, hl with | [_, _], _ => rfl⟩
  have H_goes_up : HasDef (wL K mg) "goes_up" s_goes_up ["places", "many"] := by
    obtain ⟨fd, F⟩ := c.def_ 5 (d := d_goes_up) rfl
    exact ⟨_, fd, F, He.glo_ok X G (c.fact 34 (f := .glo "goes_up") rfl), FunD.bindsN (ps := ["places", "many"]) F fun _ _ _ _ _ _ us hl => match us, hl with | [_, _], _ => rfl⟩
  obtain ⟨fd_Trail___init__, F_Trail___init__⟩ := c.def_ 6 (d := d_Trail___init__) rfl
  have B_Trail___init__ := FunD.bindsN (ps := ["self", "many"]) F_Trail___init__ fun _ _ _ _ _ _ us hl => match us, hl with | [_, _], _ => rfl
  obtain ⟨fd_Trail_swap, F_Trail_swap⟩ := c.def_ 7 (d := d_Trail_swap) rfl
  have B_Trail_swap := FunD.bindsN (ps := ["self", "place"]) F_Trail_swap fun _ _ _ _ _ _ us hl => match us, hl with | [_, _], _ => rfl
  obtain ⟨fd_Trail_back, F_Trail_back⟩ := c.def_ 8 (d := d_Trail_back) rfl
  have B_Trail_back := FunD.bindsN (ps := ["self"]) F_Trail_back fun _ _ _ _ _ _ us hl => match us, hl with | [_], _ => rfl
  obtain ⟨fd_Trail_row, F_Trail_row⟩ := c.def_ 9 (d := d_Trail_row) rfl
  have B_Trail_row := FunD.bindsN (ps := ["self"]) F_Trail_row fun _ _ _ _ _ _ us hl => match us, hl with | [_], _ => rfl
  obtain ⟨fd_Trail_places, F_Trail_places⟩ := c.def_ 10 (d := d_Trail_places) rfl
  have B_Trail_places := FunD.bindsN (ps := ["self"]) F_Trail_places fun _ _ _ _ _ _ us hl => match us, hl with | [_], _ => rfl
  obtain ⟨fd_Trail_is_short, F_Trail_is_short⟩ := c.def_ 11 (d := d_Trail_is_short) rfl
  have B_Trail_is_short := FunD.bindsN (ps := ["self"]) F_Trail_is_short fun _ _ _ _ _ _ us hl => match us, hl with | [_], _ => rfl
  have H_law_draw : HasDef (wL K mg) "_law_draw" s_law_draw ["_law_script", "_law_k"] := by
    obtain ⟨fd, F⟩ := c.def_ 12 (d := d_law_draw) rfl
    exact ⟨_, fd, F, He.glo_ok X G (c.fact 35 (f := .glo "_law_draw") rfl), FunD.bindsN (ps := ["_law_script", "_law_k"]) F fun _ _ _ _ _ _ us hl => match us, hl with | [_, _], _ => rfl⟩
  have H_law_turned : HasDef (wL K mg) "_law_turned" s_law_turned ["_law_row"] := by
    obtain ⟨fd, F⟩ := c.def_ 13 (d := d_law_turned) rfl
    exact ⟨_, fd, F, He.glo_ok X G (c.fact 36 (f := .glo "_law_turned") rfl), FunD.bindsN (ps := ["_law_row"]) F fun _ _ _ _ _ _ us hl => match us, hl with | [_], _ => rfl⟩
  have H_law_kinds : HasDef (wL K mg) "_law_kinds" s_law_kinds ["_law_e"] := by
    obtain ⟨fd, F⟩ := c.def_ 14 (d := d_law_kinds) rfl
    exact ⟨_, fd, F, He.glo_ok X G (c.fact 37 (f := .glo "_law_kinds") rfl), FunD.bindsN (ps := ["_law_e"]) F fun _ _ _ _ _ _ us hl => match us, hl with | [_], _ => rfl⟩
  have H_law_is_list : HasDef (wL K mg) "_law_is_list" s_law_is_list ["_law_found", "_law_due"] := by
    obtain ⟨fd, F⟩ := c.def_ 15 (d := d_law_is_list) rfl
    exact ⟨_, fd, F, He.glo_ok X G (c.fact 38 (f := .glo "_law_is_list") rfl), FunD.bindsN (ps := ["_law_found", "_law_due"]) F fun _ _ _ _ _ _ us hl => match us, hl with | [_, _], _ => rfl⟩
  have H_law_walked : HasDef (wL K mg) "_law_walked" s_law_walked ["_law_word", "_law_many"] := by
    obtain ⟨fd, F⟩ := c.def_ 16 (d := d_law_walked) rfl
    exact ⟨_, fd, F, He.glo_ok X G (c.fact 39 (f := .glo "_law_walked") rfl), FunD.bindsN (ps := ["_law_word", "_law_many"]) F fun _ _ _ _ _ _ us hl => match us, hl with | [_, _], _ => rfl⟩
  have H_law_told : HasDef (wL K mg) "_law_told" s_law_told ["_law_trail", "_law_way", "_law_place"] := by
    obtain ⟨fd, F⟩ := c.def_ 17 (d := d_law_told) rfl
    exact ⟨_, fd, F, He.glo_ok X G (c.fact 40 (f := .glo "_law_told") rfl), FunD.bindsN (ps := ["_law_trail", "_law_way", "_law_place"]) F fun _ _ _ _ _ _ us hl => match us, hl with | [_, _, _], _ => rfl⟩
  have H_law_right : HasDef (wL K mg) "_law_right" s_law_right ["_law_trail", "_law_past", "_law_many"] := by
    obtain ⟨fd, F⟩ := c.def_ 18 (d := d_law_right) rfl
    exact ⟨_, fd, F, He.glo_ok X G (c.fact 41 (f := .glo "_law_right") rfl), FunD.bindsN (ps := ["_law_trail", "_law_past", "_law_many"]) F fun _ _ _ _ _ _ us hl => match us, hl with | [_, _, _], _ => rfl⟩
  have H_law_long_right : HasDef (wL K mg) "_law_long_right" s_law_long_right ["_law_script"] := by
    obtain ⟨fd, F⟩ := c.def_ 19 (d := d_law_long_right) rfl
    exact ⟨_, fd, F, He.glo_ok X G (c.fact 42 (f := .glo "_law_long_right") rfl), FunD.bindsN (ps := ["_law_script"]) F fun _ _ _ _ _ _ us hl => match us, hl with | [_], _ => rfl⟩
  obtain ⟨fdL, FL⟩ := c.def_ 20 (d := d_law) rfl
  have e := hfa.symm.trans (He.glo_ok X G (c.fact 43 (f := .glo "law") rfl))
  cases e
  have b := FunD.bindsA (ps := ["_law_script"]) FL fun _ _ _ _ _ _ us hl => match us, hl with | [_], _ => rfl
  refine ⟨fdL, fun s v => b s [v] rfl, fun base _ _ => ?_⟩
  have D_is_among : Dfn P wd (wL K mg) base "is_among" 1 3 m_is_among := ok_is_among okW T H_is_among 
  have D_need_many : Dfn P wd (wL K mg) base "need_many" 2 1 m_need_many := ok_need_many okW T H_need_many D_is_among
  have D_first_row : Dfn P wd (wL K mg) base "first_row" 3 1 m_first_row := ok_first_row okW T H_first_row D_need_many
  have D_is_place : Dfn P wd (wL K mg) base "is_place" 2 2 m_is_place := ok_is_place okW T H_is_place D_is_among
  have D_exchanged : Dfn P wd (wL K mg) base "exchanged" 1 2 m_exchanged := ok_exchanged okW T H_exchanged 
  have D_goes_up : Dfn P wd (wL K mg) base "goes_up" 4 2 m_goes_up := ok_goes_up okW T H_goes_up D_first_row D_exchanged
  have D_Trail___init__ : Mkr P wd (wL K mg) base "Trail" 4 1 mo_Trail___init__ := ⟨_, _, fd_Trail___init__, _, He.glo_ok X G (c.fact 19 (f := .glo "Trail") rfl), He.cls_ok (c.fact 20 (f := .cls "Trail") rfl), He.mkr_ok (c.fact 23 (f := .mkr "Trail") rfl), ok_Trail___init__ okW T F_Trail___init__ D_first_row, B_Trail___init__⟩
  have D_Trail_swap : MthX P wd (wL K mg) base "Trail" "swap" 3 1 mo_Trail_swap m_Trail_swap := ⟨_, _, fd_Trail_swap, _, He.glo_ok X G (c.fact 19 (f := .glo "Trail") rfl), He.cls_ok (c.fact 20 (f := .cls "Trail") rfl), He.meth_ok (c.fact 24 (f := .meth "Trail" "swap") rfl), ok_Trail_swap okW T F_Trail_swap D_is_place D_exchanged, okr_Trail_swap okW T F_Trail_swap D_is_place D_exchanged, B_Trail_swap⟩
  have D_Trail_back : MthX P wd (wL K mg) base "Trail" "back" 2 0 mo_Trail_back m_Trail_back := ⟨_, _, fd_Trail_back, _, He.glo_ok X G (c.fact 19 (f := .glo "Trail") rfl), He.cls_ok (c.fact 20 (f := .cls "Trail") rfl), He.meth_ok (c.fact 25 (f := .meth "Trail" "back") rfl), ok_Trail_back okW T F_Trail_back D_exchanged, okr_Trail_back okW T F_Trail_back D_exchanged, B_Trail_back⟩
  have D_Trail_row : MthR P wd (wL K mg) base "Trail" "row" 1 0 m_Trail_row := ⟨_, _, fd_Trail_row, _, He.glo_ok X G (c.fact 19 (f := .glo "Trail") rfl), He.cls_ok (c.fact 20 (f := .cls "Trail") rfl), He.meth_ok (c.fact 26 (f := .meth "Trail" "row") rfl), ok_Trail_row okW T F_Trail_row , B_Trail_row⟩
  have D_Trail_places : MthR P wd (wL K mg) base "Trail" "places" 1 0 m_Trail_places := ⟨_, _, fd_Trail_places, _, He.glo_ok X G (c.fact 19 (f := .glo "Trail") rfl), He.cls_ok (c.fact 20 (f := .cls "Trail") rfl), He.meth_ok (c.fact 27 (f := .meth "Trail" "places") rfl), ok_Trail_places okW T F_Trail_places , B_Trail_places⟩
  have D_Trail_is_short : MthR P wd (wL K mg) base "Trail" "is_short" 5 0 m_Trail_is_short := ⟨_, _, fd_Trail_is_short, _, He.glo_ok X G (c.fact 19 (f := .glo "Trail") rfl), He.cls_ok (c.fact 20 (f := .cls "Trail") rfl), He.meth_ok (c.fact 28 (f := .meth "Trail" "is_short") rfl), ok_Trail_is_short okW T F_Trail_is_short D_goes_up, B_Trail_is_short⟩
  have D_law_draw : Dfn P wd (wL K mg) base "_law_draw" 1 2 m_law_draw := ok_law_draw okW T H_law_draw 
  have D_law_turned : Dfn P wd (wL K mg) base "_law_turned" 1 1 m_law_turned := ok_law_turned okW T H_law_turned 
  have D_law_kinds : Dfn P wd (wL K mg) base "_law_kinds" 1 1 m_law_kinds := ok_law_kinds okW T H_law_kinds 
  have D_law_is_list : Dfn P wd (wL K mg) base "_law_is_list" 1 2 m_law_is_list := ok_law_is_list okW T H_law_is_list 
  have D_law_walked : Dfn P wd (wL K mg) base "_law_walked" 1 2 m_law_walked := ok_law_walked okW T H_law_walked 
  have D_law_told : DfnO P wd (wL K mg) base "_law_told" "Trail" 4 2 mo_law_told := ok_law_told okW T H_law_told D_Trail_swap D_Trail_back D_law_kinds
  have D_law_right : Dfn P wd (wL K mg) base "_law_right" 6 3 m_law_right := ok_law_right okW T H_law_right D_Trail_row D_Trail_places D_Trail_is_short D_law_turned D_law_is_list D_law_walked
  have D_law_long_right : Dfn P wd (wL K mg) base "_law_long_right" 6 1 m_law_long_right := ok_law_long_right okW T H_law_long_right D_Trail___init__ D_Trail_swap D_Trail_row D_Trail_places D_Trail_is_short D_law_draw D_law_walked
  exact okL (w := wL K mg) okW T FL D_Trail___init__ D_law_draw D_law_told D_law_right D_law_long_right
end Vs
end
open PySem PySem.W PySem.Calls PyProof.Rows
set_option maxRecDepth 100000 in
set_option maxHeartbeats 0 in
theorem PySem.Challenge.cw_swaplattice_k12_trails_holds : PySem.Challenge.rw_swaplattice_k12_trails.Holds := by
  w_on; o_law
  refine HandSHeadRun.head_any (r := OpenLaw.row PySem.Challenge.rw_swaplattice_k12_trails) (q := view (OpenLaw.row PySem.Challenge.rw_swaplattice_k12_trails).prog [35]) (H := Vs.hkL) (ob := Vs.obL) (M := 8000) (loose := Vs.namesL) (d := HandSHeadRun.topDef (OpenLaw.row PySem.Challenge.rw_swaplattice_k12_trails).prog 35) (kwd := []) Vs.obL_eq
    (by kernel_rfl) (fun s => by kernel_rfl) Vs.runL (by kernel_rfl) (by kernel_rfl) (by kernel_rfl) (by rfl) (by first | assumption | decide +kernel) (by decide +kernel) ⟨rfl, rfl, rfl, rfl, rfl, by decide +kernel⟩ ?hw ?hc
  case hw => w_witness2
  case hc =>
    refine L2.walk_ofE (l := PySem.Challenge.rw_swaplattice_k12_trails) (n := 63) (k := 7) (x := "_law_script") (CX := Vs.CXE) rfl (by decide) (by kernel_rfl) ⟨rfl, by decide, by decide⟩ ?F (fun _ _ _ _ z => Vs.no_exc z)
    intro w mg fa h Y G hmg0
    obtain ⟨K, KX, c, cx⟩ := Y
    have hmg : mg ("law" : PySem.Str) = some (.ref fa) := by
      have e : (HandSHeadRun.topDef (OpenLaw.row PySem.Challenge.rw_swaplattice_k12_trails).prog 35).name = ("law" : PySem.Str) := by kernel_rfl
      rw [← e]
      exact hmg0
    obtain ⟨fd, hb, hF⟩ := Vs.factsL (P := (PySem.Challenge.rw_swaplattice_k12_trails).prog) (wd := w) KX G hmg c cx
    exact ⟨K, fd, _, KX, hb, fun H a ns hl _ hS => Vs.law_sp Vs.law_true hl hS, fun base b1 b2 => Vs.fn_cx (hF base b1 b2)⟩

