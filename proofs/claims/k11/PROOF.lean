import PyProof.Rows.All
import Wide.All
import OpenK.AllK
import Wide.FinOn
import HandS.ForMost
import HandS.Exc
import HandS.ExcOwn
import HandS.TryOnly
import HandS.WordsExc
import HandS.Lambda
import HandS.TryMany
import HandS.Wide
import HandS.Style
import HandS.TupMul
import HandS.IsInst
import HandS.CallSlots
import KE.KDictKeyed
import HandS.TupAny
import HandS.SortInts
import PyProof.TupleOfSeq
import HandS.Iter
import HandS.EndOwn
import HandS.ExcValue
import HandS.ExcInit
import HandS.ExcIs
import HandS.ExcField
import HandS.ClsMeth
import HandS.SetFor
import HandS.Strs
import HandS.Zip
import HandS.NoneIn
import KE.GoesMore
import PySem.Challenge.RW_oneevent_k11_texts_of_clauses
set_option Elab.async false
set_option linter.all false
set_option maxRecDepth 100000
set_option maxHeartbeats 4000000
/-! A layer over HandS: data of any depth held by names, own lists and objects as cells; an expression's and a block's wp over them. -/
namespace DL
open PySem PySem.Spec PyProof.Rows L2

/-- what is told of a value by a part of the heap that is never written -/
structure GP where
  ok : Hp → V → Prop
  mono : ∀ {G G' : Hp} {w : V}, (∀ a o, G a = some o → G' a = some o) → ok G w → ok G' w
/-- at the value's place stands o -/
def GP.at (o : Addr → HO) : GP := ⟨fun G w => ∃ a, w = .ref a ∧ G a = some (o a), fun e ⟨a, h1, h2⟩ => ⟨a, h1, e _ _ h2⟩⟩
/-- data: what a value stands for, whatever the heap -/
inductive D where
  | non | bl (b : Bool) | int (i : Int) | str (x : Str) | tup (xs : List D) | lst (xs : List D) | v (x : V) | lk (ns : List Int) | obj (p : GP)

mutual
def R (K : PySem.W.Frag) (G : Hp) : D → V → Prop
  | .non, w => w = .non
  | .bl b, w => w = .bl b
  | .int i, w => w = .int i
  | .str x, w => w = .str x
  | .tup ds, w => ∃ a vs, w = .ref a ∧ SqT K G a vs ∧ RS K G ds vs
  | .lst ds, w => ∃ a vs, w = .ref a ∧ Rd G a (.lst vs) ∧ RS K G ds vs
  | .v x, w => w = x
  | .lk ns, w => ∃ a, w = .ref a ∧ SqL K G a (ns.map V.int)
  | .obj p, w => p.ok G w
def RS (K : PySem.W.Frag) (G : Hp) : List D → List V → Prop
  | [], vs => vs = []
  | d :: ds, vs => ∃ v r, vs = v :: r ∧ R K G d v ∧ RS K G ds r
end

/-- all but the tables of code objects stays -/
abbrev Ex (H H' : Hp) : Prop := ∀ a o, H a = some o → H' a = some o
theorem Ex.refl (H : Hp) : Ex H H := fun _ _ h => h
theorem Ex.trans {H H1 H2 : Hp} (a : Ex H H1) (b : Ex H1 H2) : Ex H H2 := fun x o h => b x o (a x o h)
theorem Ex.free {H H' : Hp} (e : Ex H H') {a : Addr} (h : H' a = none) : H a = none := by
  cases q : H a with
  | none => rfl
  | some o => rw [e a o q] at h; cases h
theorem Ex.sqL {K : PySem.W.Frag} {H H' : Hp} {a : Addr} {xs : List V} (e : Ex H H') (h : SqL K H a xs) : SqL K H' a xs := by
  rcases h with (h | ⟨o, h⟩) | h
  · exact .inl (.inl (e _ _ h))
  · exact .inl (.inr ⟨o, e _ _ h⟩)
  · exact .inr h
theorem Ex.sqT {K : PySem.W.Frag} {H H' : Hp} {a : Addr} {xs : List V} (e : Ex H H') (h : SqT K H a xs) : SqT K H' a xs := by
  rcases h with (h | ⟨o, h⟩) | h
  · exact .inl (.inl (e _ _ h))
  · exact .inl (.inr ⟨o, e _ _ h⟩)
  · exact .inr h
theorem Ex.rd {H H' : Hp} {a : Addr} {u : HO} (e : Ex H H') (h : Rd H a u) : Rd H' a u := by
  rcases h with h | ⟨o, h⟩
  · exact .inl (e _ _ h)
  · exact .inr ⟨o, e _ _ h⟩
theorem Ex.new {H : Hp} {p : Addr} {o : HO} (h : H p = none) : Ex H (upd H p o) := fun a u e => by rw [upd_ne (ne_of_none e h)]; exact e

section
variable {K : PySem.W.Frag} {G G' : Hp}
mutual
theorem R.mono (e : Ex G G') : ∀ {d : D} {w : V}, R K G d w → R K G' d w
  | .non, _, h => h
  | .bl _, _, h => h
  | .int _, _, h => h
  | .str _, _, h => h
  | .tup _, _, ⟨a, vs, h1, h2, h3⟩ => ⟨a, vs, h1, e.sqT h2, RS.mono e h3⟩
  | .lst _, _, ⟨a, vs, h1, h2, h3⟩ => ⟨a, vs, h1, e.rd h2, RS.mono e h3⟩
  | .v _, _, h => h
  | .lk _, _, ⟨a, h1, h2⟩ => ⟨a, h1, e.sqL h2⟩
  | .obj p, _, h => p.mono e h
theorem RS.mono (e : Ex G G') : ∀ {ds : List D} {vs : List V}, RS K G ds vs → RS K G' ds vs
  | [], _, h => h
  | _ :: _, _, ⟨v, r, h1, h2, h3⟩ => ⟨v, r, h1, R.mono e h2, RS.mono e h3⟩
end
theorem RS.length : ∀ {ds : List D} {vs : List V}, RS K G ds vs → ds.length = vs.length
  | [], _, h => by cases h; rfl
  | _ :: _, _, ⟨_, _, h1, _, h3⟩ => by subst h1; rw [List.length_cons, List.length_cons, RS.length h3]
theorem RS.get : ∀ {ds : List D} {vs : List V} {i : Nat} {d : D}, RS K G ds vs → ds[i]? = some d → ∃ w, vs[i]? = some w ∧ R K G d w
  | [], _, _, _, _, e => by simp at e
  | _ :: _, _, 0, _, ⟨v, r, h1, h2, _⟩, e => by
    simp only [List.getElem?_cons_zero, Option.some.injEq] at e
    subst e h1
    exact ⟨v, rfl, h2⟩
  | _ :: ds, _, i + 1, d, ⟨v, r, h1, _, h3⟩, e => by
    subst h1
    obtain ⟨w, q1, q2⟩ := RS.get (i := i) h3 (by simpa using e)
    exact ⟨w, by simpa using q1, q2⟩
theorem RS.get' : ∀ {ds : List D} {vs : List V} {i : Nat} {w : V}, RS K G ds vs → vs[i]? = some w → ∃ d, ds[i]? = some d ∧ R K G d w
  | [], _, _, _, h, e => by cases h; simp at e
  | d :: _, _, 0, _, ⟨v, r, h1, h2, _⟩, e => by
    subst h1
    simp only [List.getElem?_cons_zero, Option.some.injEq] at e
    subst e
    exact ⟨d, rfl, h2⟩
  | _ :: ds, _, i + 1, w, ⟨v, r, h1, _, h3⟩, e => by
    subst h1
    obtain ⟨w, q1, q2⟩ := RS.get' (i := i) h3 (by simpa using e)
    exact ⟨w, by simpa using q1, q2⟩
theorem RS.append : ∀ {ds es : List D} {vs ws : List V}, RS K G ds vs → RS K G es ws → RS K G (ds ++ es) (vs ++ ws)
  | [], _, _, _, h, q => by cases h; exact q
  | _ :: _, _, _, _, ⟨v, r, h1, h2, h3⟩, q => by subst h1; exact ⟨v, r ++ _, rfl, h2, RS.append h3 q⟩
theorem RS.one {d : D} {w : V} (h : R K G d w) : RS K G [d] [w] := ⟨w, [], rfl, h, rfl⟩
theorem RS.set {d : D} {w : V} (r : R K G d w) : ∀ {ds : List D} {vs : List V} (i : Nat), RS K G ds vs → RS K G (ds.set i d) (vs.set i w)
  | [], _, _, h => by cases h; rfl
  | _ :: _, _, 0, ⟨v, q, h1, _, h3⟩ => by subst h1; exact ⟨w, q, rfl, r, h3⟩
  | _ :: _, _, i + 1, ⟨v, q, h1, h2, h3⟩ => by subst h1; exact ⟨v, q.set i w, rfl, h2, RS.set r i h3⟩
theorem RS.take : ∀ {ds : List D} {vs : List V} (n : Nat), RS K G ds vs → RS K G (ds.take n) (vs.take n)
  | _, _, 0, _ => rfl
  | [], _, _ + 1, h => by cases h; rfl
  | _ :: _, _, n + 1, ⟨v, q, h1, h2, h3⟩ => by subst h1; exact ⟨v, q.take n, rfl, h2, RS.take n h3⟩
theorem RS.drop : ∀ {ds : List D} {vs : List V} (n : Nat), RS K G ds vs → RS K G (ds.drop n) (vs.drop n)
  | _, _, 0, h => h
  | [], _, _ + 1, h => by cases h; rfl
  | _ :: _, _, n + 1, ⟨v, q, h1, _, h3⟩ => by subst h1; exact RS.drop n h3
theorem RS.reverse : ∀ {ds : List D} {vs : List V}, RS K G ds vs → RS K G ds.reverse vs.reverse
  | [], _, h => by cases h; rfl
  | _ :: _, _, ⟨v, q, h1, h2, h3⟩ => by subst h1; rw [List.reverse_cons, List.reverse_cons]; exact RS.append (RS.reverse h3) (RS.one h2)
theorem RS.ints : ∀ {ns : List Int} {vs : List V}, RS K G (ns.map D.int) vs → vs = ns.map V.int
  | [], _, h => h
  | _ :: _, _, ⟨v, q, h1, h2, h3⟩ => by
    subst h1
    rw [show v = _ from h2, RS.ints h3]; rfl
theorem RS.of_ints (ns : List Int) : RS K G (ns.map D.int) (ns.map V.int) := by
  induction ns with
  | nil => rfl
  | cons n r ih => exact ⟨_, _, rfl, rfl, ih⟩
end

/-! ### as the library's data -/
mutual
def D.py : D → PyData
  | .non => .none
  | .bl b => .bool b
  | .int i => .int i
  | .str x => .str x
  | .tup ds => .tuple (D.pys ds)
  | .lst ds => .list (D.pys ds)
  | .v _ => .none
  | .lk _ => .none
  | .obj _ => .none
def D.pys : List D → List PyData
  | [] => []
  | d :: ds => D.py d :: D.pys ds
end
mutual
/-- nothing opaque within -/
def D.plain : D → Bool
  | .tup ds => D.plains ds
  | .lst ds => D.plains ds
  | .v _ => false
  | .lk _ => false
  | .obj _ => false
  | _ => true
def D.plains : List D → Bool
  | [] => true
  | d :: ds => D.plain d && D.plains ds
end
section
variable {K : PySem.W.Frag} {G : Hp}
mutual
theorem R.dp : ∀ {d : D} {w : V}, d.plain = true → R K G d w → Dp K G w d.py
  | .non, _, _, h => by cases h; exact .non
  | .bl _, _, _, h => by cases h; exact .bl _
  | .int _, _, _, h => by cases h; exact .int _
  | .str _, _, _, h => by cases h; exact .str _
  | .tup _, _, p, ⟨a, vs, h1, h2, h3⟩ => by subst h1; exact .tup h2 (RS.dp p h3)
  | .lst _, _, p, ⟨a, vs, h1, h2, h3⟩ => by subst h1; exact .lst (.inl h2) (RS.dp p h3)
  | .v _, _, p, _ => by cases p
  | .lk _, _, p, _ => by cases p
  | .obj _, _, p, _ => by cases p
theorem RS.dp : ∀ {ds : List D} {vs : List V}, D.plains ds = true → RS K G ds vs → DpAll K G vs (D.pys ds)
  | [], _, _, h => by cases h; exact .nil
  | d :: ds, _, p, ⟨v, r, h1, h2, h3⟩ => by
    have q : (d.plain && D.plains ds) = true := p
    rw [Bool.and_eq_true] at q
    subst h1
    exact .cons (R.dp q.1 h2) (RS.dp q.2 h3)
end
end

/-! ### dicts with nested keys -/
/-- a key as data -/
def kD : NestedKey → D
  | .none => .non
  | .num i => .int i
  | .text x => .str x
  | .tup ks => .tup (ks.map kD)
/-- a dict whose keys are nested tuples: its entries, each by the key, the place where the key stands, the value -/
def DnO (P : Program) (w : World) (a : Addr) (xs : List (NestedKey × Addr × V)) : HO := .ext fun h =>
  xs.length ≤ sizeLine ∧ (a == sysModules) = false ∧ (xs.map (·.1)).Nodup ∧ (∀ x ∈ xs, x.1.depth ≤ 8) ∧
  ∃ ys : List (NestedKey × Addr × Value), Paired (fun x y => x.1 = y.1 ∧ x.2.1 = y.2.1 ∧ RelV x.2.2 y.2.2) xs ys ∧
    ∃ o es ep, h.get? a = some o ∧ o.ExactDict ∧ o.data = .dict es ep ∧ es.toList = ys.map (entryOfKey (nestedKind P w))
theorem heap_of_size : ∀ n : Nat, ∃ h : Heap, h.objs.size = n
  | 0 => ⟨{}, rfl⟩
  | n + 1 => by
    obtain ⟨h, e⟩ := heap_of_size n
    exact ⟨h.push { cls := .none, data := .fields #[] }, by rw [Heap.size_push, e]⟩
theorem dnO_ne_code {P : Program} {w : World} {a : Addr} {xs : List (NestedKey × Addr × V)} {q : Str} : DnO P w a xs ≠ LamX.CodeO a q := fun z => by
  have z' : HO.ext _ = HO.ext _ := z
  injection z' with z'
  obtain ⟨h, e⟩ := heap_of_size a
  have g : (h.push { cls := .none, data := .fields #[.none, .str q default] }).get? a = some { cls := .none, data := .fields #[.none, .str q default] } := by rw [← e]; exact Heap.get?_push_size _ rfl
  have y := congrFun z' (h.push { cls := .none, data := .fields #[.none, .str q default] })
  have y2 := y.mpr ⟨_, _, default, g, rfl, rfl⟩
  obtain ⟨_, _, _, _, ys, _, o, es, ep, g2, _, hd, _⟩ := y2
  rw [g] at g2
  cases g2
  cases hd
/-! ### own objects, the state -/
inductive OD where
  | lst (xs : List D)
  | ins (C : Addr) (fs : List (Str × D))
  | dK (kvs : List (Key × D))
  | dN (P : Program) (w : World) (kvs : List (NestedKey × D))
/-- a cell: an object that may be written; m: it was handed in -/
structure Cel where
  a : Addr
  m : Bool
  o : OD
def OwnAt (K : PySem.W.Frag) (G H : Hp) (a : Addr) : OD → Prop
  | .lst ds => ∃ vs, H a = some (.lst vs) ∧ RS K G ds vs
  | .ins C fs => ∃ dx fv, H a = some (.ins C dx fv) ∧ fv.map (·.1) = fs.map (·.1) ∧ RS K G (fs.map (·.2)) (fv.map (·.2))
  | .dK kvs => ∃ kv, H a = some (.dK kv) ∧ kv.map (·.1) = kvs.map (·.1) ∧ RS K G (kvs.map (·.2)) (kv.map (·.2))
  | .dN P w kvs => ∃ xs : List (NestedKey × Addr × V), H a = some (DnO P w a xs) ∧ xs.map (·.1) = kvs.map (·.1) ∧ RS K G (kvs.map fun p => kD p.1) (xs.map fun x => .ref x.2.1) ∧ RS K G (kvs.map (·.2)) (xs.map (·.2.2))
def NT (x : Option HO) : Prop := x = none ∨ ∃ ps, x = some (.tbl ps)
def Fz : HO → Prop
  | .tup _ => True
  | .lst _ => True
  | .frz _ _ => True
  | .ext _ => True
  | .set _ _ => True
  | .met _ _ => True
  | .rng _ _ => True
  | .xd _ => True
  | _ => False
theorem OwnAt.nt {K : PySem.W.Frag} {G H : Hp} {a : Addr} {o : OD} (h : OwnAt K G H a o) : ¬ NT (H a) := by
  have z : ∀ u : HO, H a = some u → (∀ ps, u ≠ .tbl ps) → ¬ NT (H a) := fun u e n q => by
    rcases q with q | ⟨ps, q⟩
    · rw [e] at q; cases q
    · rw [e] at q; exact n ps (Option.some.inj q)
  cases o with
  | lst ds => obtain ⟨vs, e, _⟩ := h; exact z _ e fun ps q => by cases q
  | ins C fs => obtain ⟨dx, fv, e, _⟩ := h; exact z _ e fun ps q => by cases q
  | dK kvs => obtain ⟨kv, e, _⟩ := h; exact z _ e fun ps q => by cases q
  | dN P w kvs => obtain ⟨xs, e, _⟩ := h; exact z _ e fun ps q => by cases (show HO.ext _ = HO.tbl ps from q)
theorem OwnAt.there {K : PySem.W.Frag} {G H : Hp} {a : Addr} {o : OD} (h : OwnAt K G H a o) : ∃ u, H a = some u ∧ ∀ ps, u ≠ .tbl ps := by
  cases o with
  | lst ds => obtain ⟨vs, e, _⟩ := h; exact ⟨_, e, fun ps q => by cases q⟩
  | ins C fs => obtain ⟨dx, fv, e, _⟩ := h; exact ⟨_, e, fun ps q => by cases q⟩
  | dK kvs => obtain ⟨kv, e, _⟩ := h; exact ⟨_, e, fun ps q => by cases q⟩
  | dN P w kvs => obtain ⟨xs, e, _⟩ := h; exact ⟨_, e, fun ps q => by cases (show HO.ext _ = HO.tbl ps from q)⟩
theorem OwnAt.step {K : PySem.W.Frag} {G G' H H' : Hp} {a : Addr} {o : OD} (h : OwnAt K G H a o) (e : Ex G G') (k : H' a = H a) : OwnAt K G' H' a o := by
  cases o with
  | lst ds => obtain ⟨vs, e1, r⟩ := h; exact ⟨vs, k.trans e1, r.mono e⟩
  | ins C fs => obtain ⟨dx, fv, e1, n, r⟩ := h; exact ⟨dx, fv, k.trans e1, n, r.mono e⟩
  | dK kvs => obtain ⟨kv, e1, n, r⟩ := h; exact ⟨kv, k.trans e1, n, r.mono e⟩
  | dN P w kvs => obtain ⟨xs, e1, n, r1, r⟩ := h; exact ⟨xs, k.trans e1, n, r1.mono e, r.mono e⟩

/-- from (G, H) to (G', H'), Mc written -/
structure Adv (T : List (Addr × Str)) (Mc : List Addr) (G H G' H' : Hp) : Prop where
  gg : Ex G G'
  gh : Ex G' H'
  keep : ∀ a o, H a = some o → a ∉ Mc → (∀ ps, o ≠ .tbl ps) → H' a = some o
  sep : ∀ a, G a = none → G' a ≠ none → NT (H a)
  tab : LamX.Tabs T H'
  fz : ∀ a o, G' a = some o → Fz o
theorem Adv.refl {T : List (Addr × Str)} {Mc : List Addr} {G H : Hp} (gh : Ex G H) (tab : LamX.Tabs T H) (fz : ∀ a o, G a = some o → Fz o) : Adv T Mc G H G H :=
  ⟨Ex.refl _, gh, fun _ _ e _ _ => e, fun _ n q => absurd n q, tab, fz⟩
theorem Adv.trans {T : List (Addr × Str)} {M Mc : List Addr} {G0 H0 G H G' H' : Hp} (A : Adv T M G0 H0 G H) (B : Adv T Mc G H G' H') (hc : ∀ a ∈ Mc, a ∈ M ∨ NT (H0 a)) (hM : ∀ a ∈ M, ¬ NT (H a)) : Adv T M G0 H0 G' H' where
  gg := A.gg.trans B.gg
  gh := B.gh
  keep := fun a o e n t => B.keep a o (A.keep a o e n t) (fun z => by
    rcases hc a z with q | q | ⟨ps, q⟩
    · exact n q
    · rw [e] at q; cases q
    · rw [e] at q; exact t ps (Option.some.inj q)) t
  sep := fun a n q => by
    by_cases g : G a = none
    · have x := B.sep a g q
      cases e : H0 a with
      | none => exact .inl rfl
      | some o =>
        by_cases t : ∀ ps, o ≠ .tbl ps
        · by_cases m : a ∈ M
          · exact absurd x (hM a m)
          · have y := A.keep a o e m t
            rcases x with x | ⟨ps, x⟩
            · rw [y] at x; cases x
            · rw [y] at x; exact absurd (Option.some.inj x) (t ps)
        · have ⟨ps, z⟩ := Classical.not_forall.mp t
          exact .inr ⟨ps, by rw [Classical.not_not.mp z]⟩
    · exact A.sep a n g
  tab := B.tab
  fz := B.fz
/-- an extension -/
theorem Adv.ext {T : List (Addr × Str)} {Mc : List Addr} {G H H' : Hp} (gh : Ex G H) (tab : LamX.Tabs T H) (fz : ∀ a o, G a = some o → Fz o) (e : Ex H H') : Adv T Mc G H G H' :=
  ⟨Ex.refl _, gh.trans e, fun a o h _ _ => e a o h, fun _ n q => absurd n q, tab.ext e, fz⟩
/-- a new thing that is never written -/
theorem Adv.lay {T : List (Addr × Str)} {Mc : List Addr} {G H : Hp} {p : Addr} {o : HO} (gh : Ex G H) (tab : LamX.Tabs T H) (fz : ∀ a o, G a = some o → Fz o) (np : H p = none) (fo : Fz o) : Adv T Mc G H (upd G p o) (upd H p o) where
  gg := Ex.new (gh.free np)
  gh := fun a u e => by
    by_cases h : a = p
    · subst h; rw [upd_same] at e ⊢; exact e
    · rw [upd_ne h] at e ⊢; exact gh a u e
  keep := fun a u e _ _ => Ex.new np a u e
  sep := fun a n q => by
    by_cases h : a = p
    · subst h; exact .inl np
    · rw [upd_ne h] at q; exact absurd n q
  tab := tab.ext (Ex.new np)
  fz := fun a u e => by
    by_cases h : a = p
    · subst h; rw [upd_same] at e; cases e; exact fo
    · rw [upd_ne h] at e; exact fz a u e

/-- THE STATE: from (G0, H0), M handed in, to (G, H); σ holds ρ, the cells are ω -/
structure SI (K : PySem.W.Frag) (T : List (Addr × Str)) (M : List Addr) (G0 H0 G H : Hp) (σ : L2.St) (ρ : List (Option D)) (ω : List Cel) : Prop where
  adv : Adv T M G0 H0 G H
  len : ρ.length = σ.length
  env : ∀ (i : Nat) (d : D), ρ[i]? = some (some d) → ∃ w, σ[i]? = some (some w) ∧ R K G d w
  own : ∀ c ∈ ω, G c.a = none ∧ (c.m = false → NT (H0 c.a)) ∧ OwnAt K G H c.a c.o
  nd : (ω.map Cel.a).Nodup
  mm : (ω.filter Cel.m).map Cel.a = M
section
variable {K : PySem.W.Frag} {T : List (Addr × Str)} {M : List Addr} {G0 H0 G H G' H' : Hp} {σ : L2.St} {ρ : List (Option D)} {ω : List Cel}
theorem SI.mOwn (S : SI K T M G0 H0 G H σ ρ ω) {a : Addr} (h : a ∈ M) : ¬ NT (H a) := by
  rw [← S.mm] at h
  obtain ⟨c, hc, rfl⟩ := List.mem_map.mp h
  exact (S.own c (List.mem_filter.mp hc).1).2.2.nt
theorem SI.cOwn (S : SI K T M G0 H0 G H σ ρ ω) {c : Cel} (h : c ∈ ω) : c.a ∈ M ∨ NT (H0 c.a) := by
  cases e : c.m with
  | true => exact .inl (by rw [← S.mm]; exact List.mem_map.mpr ⟨c, List.mem_filter.mpr ⟨h, e⟩, rfl⟩)
  | false => exact .inr ((S.own c h).2.1 e)
theorem SI.gh (S : SI K T M G0 H0 G H σ ρ ω) : Ex G H := S.adv.gh
/-- nothing of the cells is written -/
theorem SI.step (S : SI K T M G0 H0 G H σ ρ ω) (A : Adv T [] G H G' H') : SI K T M G0 H0 G' H' σ ρ ω where
  adv := S.adv.trans A (fun _ z => nomatch z) fun a h => S.mOwn h
  len := S.len
  env := fun i d e => let ⟨w, e1, r⟩ := S.env i d e; ⟨w, e1, r.mono A.gg⟩
  own := fun c hc => by
    obtain ⟨h1, h2, h3⟩ := S.own c hc
    obtain ⟨u, e, nt⟩ := h3.there
    refine ⟨?_, h2, h3.step A.gg (by rw [e]; exact A.keep _ _ e (fun z => nomatch z) nt)⟩
    cases q : G' c.a with
    | none => rfl
    | some o =>
      have x := A.sep c.a h1 (by rw [q]; exact fun z => nomatch z)
      exact absurd x h3.nt
  nd := S.nd
  mm := S.mm
/-- the contents of cells -/
def put (ω : List Cel) (j : Nat) (o : OD) : List Cel := match ω[j]? with
  | some c => ω.set j { c with o := o }
  | none => ω
theorem put_map_a (ω : List Cel) (j : Nat) (o : OD) : (put ω j o).map Cel.a = ω.map Cel.a := by
  unfold put
  split
  · rename_i c e
    refine List.ext_getElem? fun i => ?_
    rw [List.getElem?_map, List.getElem?_map, List.getElem?_set]
    split
    · rename_i h; subst h
      split
      · rw [e]; rfl
      · rename_i h2
        rw [List.getElem?_eq_none (by omega)]
    · rfl
  · rfl
theorem put_filter : ∀ (ω : List Cel) (j : Nat) (o : OD), ((put ω j o).filter Cel.m).map Cel.a = (ω.filter Cel.m).map Cel.a
  | [], _, _ => rfl
  | c :: r, 0, o => by
    show (({ c with o := o } :: r).filter Cel.m).map Cel.a = _
    rw [List.filter_cons, List.filter_cons]
    show (if c.m = true then _ else _ : List Cel).map Cel.a = _
    split <;> rfl
  | c :: r, j + 1, o => by
    have ih := put_filter r j o
    have e : put (c :: r) (j + 1) o = c :: put r j o := by
      unfold put
      rw [List.getElem?_cons_succ]
      cases r[j]? <;> rfl
    rw [e, List.filter_cons, List.filter_cons]
    split
    · rw [List.map_cons, List.map_cons, ih]
    · exact ih
theorem nd_cel {ω : List Cel} (nd : (ω.map Cel.a).Nodup) {i j : Nat} {c d : Cel} (hi : ω[i]? = some c) (hj : ω[j]? = some d) (e : c.a = d.a) : i = j := by
  have h1 : (ω.map Cel.a)[i]? = some c.a := by rw [List.getElem?_map, hi]; rfl
  have h2 : (ω.map Cel.a)[j]? = some c.a := by rw [List.getElem?_map, hj, e]; rfl
  exact nd_ix nd h1 h2
/-- one cell is written -/
theorem SI.write (S : SI K T M G0 H0 G H σ ρ ω) {j : Nat} {c : Cel} (hc : ω[j]? = some c) (A : Adv T [c.a] G H G' H') {o : OD} (ho : OwnAt K G' H' c.a o) : SI K T M G0 H0 G' H' σ ρ (put ω j o) where
  adv := S.adv.trans A (fun a z => by
    have e : a = c.a := by simpa using z
    subst e
    exact S.cOwn (List.mem_of_getElem? hc)) fun a h => S.mOwn h
  len := S.len
  env := fun i d e => let ⟨w, e1, r⟩ := S.env i d e; ⟨w, e1, r.mono A.gg⟩
  own := fun d hd => by
    obtain ⟨i, hi⟩ := List.mem_iff_getElem?.mp hd
    have fresh : ∀ {d : Cel}, d ∈ ω → G' d.a = none := fun {d} hd => by
      obtain ⟨h1, _, h3⟩ := S.own d hd
      cases q : G' d.a with
      | none => rfl
      | some o => exact absurd (A.sep d.a h1 (by rw [q]; exact fun z => nomatch z)) h3.nt
    unfold put at hi
    rw [hc] at hi
    by_cases hij : i = j
    · subst hij
      have hl : i < ω.length := (List.getElem?_eq_some_iff.mp hc).1
      have hi' : (ω.set i { c with o := o })[i]? = some d := hi
      rw [List.getElem?_set_self hl] at hi'
      cases hi'
      have hm := List.mem_of_getElem? hc
      exact ⟨fresh (d := c) hm, (S.own c hm).2.1, ho⟩
    · have hi' : (ω.set j { c with o := o })[i]? = some d := hi
      rw [List.getElem?_set_ne (Ne.symm hij)] at hi'
      have hm := List.mem_of_getElem? hi'
      obtain ⟨h1, h2, h3⟩ := S.own d hm
      obtain ⟨u, e, nt⟩ := h3.there
      have nz : d.a ∉ [c.a] := fun z => by
        have ea : d.a = c.a := by simpa using z
        exact hij (nd_cel S.nd hi' hc ea)
      exact ⟨fresh hm, h2, h3.step A.gg (by rw [e]; exact A.keep _ _ e nz nt)⟩
  nd := by rw [put_map_a]; exact S.nd
  mm := by rw [put_filter]; exact S.mm
/-- a new cell -/
theorem SI.cell (S : SI K T M G0 H0 G H σ ρ ω) {p : Addr} {o : OD} {u : HO} (np : H p = none) (ho : OwnAt K G (upd H p u) p o) : SI K T M G0 H0 G (upd H p u) σ ρ (ω ++ [⟨p, false, o⟩]) := by
  have S1 := S.step (Adv.ext S.gh S.adv.tab S.adv.fz (Ex.new (o := u) np))
  refine ⟨S1.adv, S1.len, S1.env, fun c hc => ?_, ?_, ?_⟩
  · rcases List.mem_append.mp hc with h | h
    · exact S1.own c h
    · have e : c = ⟨p, false, o⟩ := by simpa using h
      subst e
      refine ⟨S.gh.free np, fun _ => ?_, ho⟩
      show NT (H0 p)
      cases q : H0 p with
      | none => exact .inl rfl
      | some x =>
        by_cases t : ∀ ps, x ≠ .tbl ps
        · by_cases m : p ∈ M
          · exact absurd (.inl np) (S.mOwn m)
          · rw [S.adv.keep p x q m t] at np; cases np
        · have ⟨ps, z⟩ := Classical.not_forall.mp t
          exact .inr ⟨ps, by rw [Classical.not_not.mp z]⟩
  · rw [List.map_append, List.nodup_append]
    refine ⟨S.nd, by simp, fun a ha b hb e => ?_⟩
    have eb : b = p := by simpa using hb
    subst eb
    obtain ⟨c, hc, rfl⟩ := List.mem_map.mp ha
    exact (S.own c hc).2.2.nt (.inl (by rw [e]; exact np))
  · rw [List.filter_append, List.map_append, S.mm]
    simp
/-- a cell is written no more -/
theorem SI.freeze (S : SI K T M G0 H0 G H σ ρ ω) {j : Nat} {p : Addr} {ds : List D} (hc : ω[j]? = some ⟨p, false, .lst ds⟩) :
    ∃ G', Ex G G' ∧ R K G' (.lst ds) (.ref p) ∧ SI K T M G0 H0 G' H σ ρ (ω.eraseIdx j) := by
  have hm := List.mem_of_getElem? hc
  obtain ⟨h1, h2, vs, e, r⟩ := S.own _ hm
  have h1 : G p = none := h1
  have e : H p = some (.lst vs) := e
  have gx : Ex G (upd G p (.lst vs)) := Ex.new h1
  have ne : ∀ c ∈ ω.eraseIdx j, c.a ≠ p := fun c hc' q => by
    obtain ⟨i, hi⟩ := List.mem_iff_getElem?.mp hc'
    rw [List.getElem?_eraseIdx] at hi
    split at hi
    · have := nd_cel S.nd hi hc q; omega
    · have := nd_cel S.nd hi hc q; omega
  have hsub : ∀ c ∈ ω.eraseIdx j, c ∈ ω := fun c h => List.mem_of_mem_eraseIdx h
  refine ⟨upd G p (.lst vs), gx, ⟨p, vs, rfl, .inl upd_same, r.mono gx⟩, ⟨⟨S.adv.gg.trans gx, fun a u q => ?_, S.adv.keep, fun a n q => ?_, S.adv.tab, fun a u q => ?_⟩, S.len, fun i d q => ?_, fun c q => ?_, ?_, ?_⟩⟩
  · by_cases h : a = p
    · subst h; rw [upd_same] at q; cases q; exact e
    · rw [upd_ne h] at q; exact S.gh a u q
  · by_cases h : a = p
    · subst h; exact h2 rfl
    · rw [upd_ne h] at q; exact S.adv.sep a n q
  · by_cases h : a = p
    · subst h; rw [upd_same] at q; cases q; exact True.intro
    · rw [upd_ne h] at q; exact S.adv.fz a u q
  · obtain ⟨w, e1, r1⟩ := S.env i d q
    exact ⟨w, e1, r1.mono gx⟩
  · obtain ⟨g1, g2, g3⟩ := S.own c (hsub c q)
    exact ⟨by rw [upd_ne (ne c q)]; exact g1, g2, g3.step gx rfl⟩
  · exact S.nd.sublist ((List.eraseIdx_sublist ω j).map _)
  · rw [← S.mm]
    have key : ∀ (l : List Cel) (j : Nat) (c : Cel), l[j]? = some c → c.m = false → (l.eraseIdx j).filter Cel.m = l.filter Cel.m := by
      intro l
      induction l with
      | nil => intro j c h; simp at h
      | cons x l ih =>
        intro j c h hm
        cases j with
        | zero =>
          simp only [List.getElem?_cons_zero, Option.some.injEq] at h
          subst h
          rw [List.eraseIdx_cons_zero, List.filter_cons, hm]
          rfl
        | succ j =>
          rw [List.eraseIdx_cons_succ, List.filter_cons, List.filter_cons, ih j c (by simpa using h) hm]
    rw [key ω j _ hc rfl]
/-- a name is stored -/
theorem SI.store (S : SI K T M G0 H0 G H σ ρ ω) {i : Nat} {d : D} {w : V} (r : R K G d w) (hi : i < σ.length) : SI K T M G0 H0 G H (σ.set i (some w)) (ρ.set i (some d)) ω where
  adv := S.adv
  len := by rw [List.length_set, List.length_set, S.len]
  env := fun k e q => by
    by_cases h : i = k
    · subst h
      rw [List.getElem?_set_self (by rw [S.len]; exact hi)] at q
      cases q
      exact ⟨w, List.getElem?_set_self hi, r⟩
    · rw [List.getElem?_set_ne h] at q ⊢
      exact S.env k e q
  own := S.own
  nd := S.nd
  mm := S.mm
/-- names forgotten -/
theorem SI.wipe (S : SI K T M G0 H0 G H σ ρ ω) : ∀ vs : List Nat, ∃ ρ', SI K T M G0 H0 G H (wipe σ vs) ρ' ω ∧ ρ' = vs.foldr (fun v r => r.set v none) ρ
  | [] => ⟨ρ, S, rfl⟩
  | v :: vs => by
    obtain ⟨ρ', S1, e⟩ := S.wipe vs
    refine ⟨ρ'.set v none, ⟨S1.adv, ?_, fun k d q => ?_, S1.own, S1.nd, S1.mm⟩, by rw [e]; rfl⟩
    · unfold L2.wipe; rw [List.length_set, List.length_set, S1.len]
    · unfold L2.wipe
      by_cases h : v = k
      · subst h
        by_cases hl : v < ρ'.length
        · rw [List.getElem?_set_self hl] at q; cases q
        · rw [List.getElem?_eq_none (by rw [List.length_set]; omega)] at q; cases q
      · rw [List.getElem?_set_ne h] at q ⊢
        exact S1.env k d q
theorem SI.weak (S : SI K T M G0 H0 G H σ ρ ω) {ρ' : List (Option D)} (hl : ρ'.length = ρ.length) (h : ∀ (i : Nat) (d : D), ρ'[i]? = some (some d) → ρ[i]? = some (some d)) : SI K T M G0 H0 G H σ ρ' ω :=
  ⟨S.adv, hl.trans S.len, fun i d e => S.env i d (h i d e), S.own, S.nd, S.mm⟩
end
end DL

namespace DL
open PySem PySem.Spec PyProof.Rows L2

/-- where one stands: HandS's context, the tables, the level, what is wished of an exception -/
structure Cz where
  X : Cx
  T : List (Addr × Str)
  k : Nat
  ex : Value → List (Str × D) → List Cel → Prop
def XD (K : PySem.W.Frag) (G H : Hp) (dd : Option Addr) (fs : List (Str × D)) : Prop :=
  fs = [] ∨ ∃ d fv, dd = some d ∧ H d = some (.xd fv) ∧ fv.map (·.1) = fs.map (·.1) ∧ RS K G (fs.map (·.2)) (fv.map (·.2))
abbrev Rho := List (Option D)
def Wof (c : Cz) (M : List Addr) (G0 H0 : Hp) : WX := fun cls dd σ H => ∃ (G : Hp) (ρ : Rho) (ω : List Cel) (fs : List (Str × D)), SI c.X.K c.T M G0 H0 G H σ ρ ω ∧ XD c.X.K G H dd fs ∧ c.ex cls fs ω
structure Pre (c : Cz) (M : List Addr) (G0 H0 : Hp) : Prop where
  tk : Takes c.X (Wof c M G0 H0)
  po : PassesOwn (model c.X.prog c.X.w) c.X.A c.X.env c.X.xe
  calm : c.X.calm = true
  nd : c.X.N.Nodup
  room : Room c.k c.X.A

/-! ### HandS's judgements as wps -/
def WE (X : Cx) (e : Expr) (σ : L2.St) (H : Hp) (Q : VK) : Prop := ∀ (pins : List (Addr × Obj)) (s : Shared), Inv X pins σ H s → wpAny (model X.prog X.w) X.A (eval e X.env) (EP X pins σ Q) X.xe s
def WT (X : Cx) (e : Expr) (σ : L2.St) (H : Hp) (Q : Bool → Hp → Prop) : Prop := ∀ (pins : List (Addr × Obj)) (s : Shared), Inv X pins σ H s → wpAny (model X.prog X.w) X.A (isTrue e X.env (eval e X.env)) (TP X pins σ Q) X.xe s
def WW (X : Cx) (e : Expr) (σ : L2.St) (H : Hp) (Q : Bool → Hp → Prop) : Prop := ∀ (whole : Sem Value) (pins : List (Addr × Obj)) (s : Shared), Inv X pins σ H s → wpAny (model X.prog X.w) X.A (isTrue e X.env whole) (TP X pins σ Q) X.xe s
def WA (X : Cx) (es : List Expr) (σ : L2.St) (H : Hp) (Q : List V → Hp → Prop) : Prop := ∀ (pos : Pos) (pins : List (Addr × Obj)) (s : Shared), Inv X pins σ H s → wpAny (model X.prog X.w) X.A (spliced (backTo pos (starEach es X.env))) (AP X pins σ Q) X.xe s
def WS (X : Cx) (ss : List Stmt) (De : Ends) (σ : L2.St) (H : Hp) : Prop := ∀ (pins : List (Addr × Obj)) (s : Shared), Inv X pins σ H s → wpAny (model X.prog X.w) X.A (execs ss X.env) (SP X pins De) X.xe s
def WS1 (X : Cx) (st : Stmt) (De : Ends) (σ : L2.St) (H : Hp) : Prop := ∀ (pins : List (Addr × Obj)) (s : Shared), Inv X pins σ H s → wpAny (model X.prog X.w) X.A (exec st X.env) (SP X pins De) X.xe s
section
variable {X : Cx} {e : Expr} {es : List Expr} {σ : L2.St} {H : Hp} {ss : List Stmt} {st : Stmt}
theorem WE.pe : PE X e (WE X e) := ⟨fun pins s _ _ _ I h => h pins s I⟩
theorem WE.of {t : TE} {Q : VK} (h : PE X e t) (q : t σ H Q) : WE X e σ H Q := fun pins s I => h.run pins s σ H Q I q
theorem WT.pt : PT X e (WT X e) := ⟨fun pins s _ _ _ I h => h pins s I⟩
theorem WT.of {t : TT} {Q : Bool → Hp → Prop} (h : PT X e t) (q : t σ H Q) : WT X e σ H Q := fun pins s I => h.run pins s σ H Q I q
theorem WW.pw : PW X e (WW X e) := ⟨fun whole pins s _ _ _ I h => h whole pins s I⟩
theorem WW.of {t : TT} {Q : Bool → Hp → Prop} (h : PW X e t) (q : t σ H Q) : WW X e σ H Q := fun whole pins s I => h.run whole pins s σ H Q I q
theorem WW.wt {Q : Bool → Hp → Prop} (h : WW X e σ H Q) : WT X e σ H Q := h _
theorem WA.pa : PA X es (WA X es) := ⟨fun pos pins s _ _ _ I h => h pos pins s I⟩
theorem WA.of {t : TA} {Q : List V → Hp → Prop} (h : PA X es t) (q : t σ H Q) : WA X es σ H Q := fun pos pins s I => h.run pos pins s σ H Q I q
theorem WS.pss : PSs X ss (WS X ss) := ⟨fun pins s _ _ _ I h => h pins s I⟩
theorem WS.of {t : TS} {De : Ends} (h : PSs X ss t) (q : t De σ H) : WS X ss De σ H := fun pins s I => h.run pins s σ H De I q
theorem WS1.ps : PS X st (WS1 X st) := ⟨fun pins s _ _ _ I h => h pins s I⟩
theorem WS1.of {t : TS} {De : Ends} (h : PS X st t) (q : t De σ H) : WS1 X st De σ H := fun pins s I => h.run pins s σ H De I q
end
/-- operations by values -/
def WB (X : Cx) (f : Value → Value → Sem Value) (v w : V) (H : Hp) (Q : VK) : Prop := ∀ (pins : List (Addr × Obj)) (s : Shared) (σ : L2.St) (u u' : Value), Inv X pins σ H s → RelV v u → RelV w u' → wpAny (model X.prog X.w) X.A (f u u') (EP X pins σ Q) X.xe s
def WU (X : Cx) (f : Value → Sem Value) (v : V) (H : Hp) (Q : VK) : Prop := ∀ (pins : List (Addr × Obj)) (s : Shared) (σ : L2.St) (u : Value), Inv X pins σ H s → RelV v u → wpAny (model X.prog X.w) X.A (f u) (EP X pins σ Q) X.xe s
def WC (X : Cx) (f : Value) (vs : List V) (H : Hp) (Q : VK) : Prop := ∀ (pins : List (Addr × Obj)) (s : Shared) (σ : L2.St) (us : List Value), Inv X pins σ H s → Vals vs us → wpAny (model X.prog X.w) X.A (call f us) (EP X pins σ Q) X.xe s
section
variable {X : Cx} {H : Hp} {Q : VK}
theorem WB.opr {f : Value → Value → Sem Value} : OpR X f (fun v w H Q => WB X f v w H Q) := fun pins s σ H x y v u Q I r1 r2 h => h pins s σ v u I r1 r2
theorem WB.of {f : Value → Value → Sem Value} {r : R2} {v w : V} (h : OpR X f r) (q : r v w H Q) : WB X f v w H Q := fun pins s σ u u' I r1 r2 => h pins s σ H v w u u' Q I r1 r2 q
theorem WU.unr {f : Value → Sem Value} : UnR X f (fun v H Q => WU X f v H Q) := fun pins s σ H x v Q I r h => h pins s σ v I r
theorem WU.of {f : Value → Sem Value} {r : V → Hp → VK → Prop} {v : V} (h : UnR X f r) (q : r v H Q) : WU X f v H Q := fun pins s σ u I r1 => h pins s σ H v u Q I r1 q
theorem WC.callr {f : Value} : CallR X f (fun vs H Q => WC X f vs H Q) := fun pins s σ H xs us Q I r h => h pins s σ us I r
theorem WC.of {f : Value} {r : List V → Hp → VK → Prop} {vs : List V} (h : CallR X f r) (q : r vs H Q) : WC X f vs H Q := fun pins s σ us I r1 => h pins s σ H vs us Q I r1 q
end

/-! ### the judgements over data -/
abbrev PK := D → List Cel → Prop
/-- what is known behind an expression -/
abbrev Kn (c : Cz) (M : List Addr) (G0 H0 G : Hp) (σ : L2.St) (ρ : Rho) (P : PK) (Q : VK) : Prop := ∀ w G' H' d ω', SI c.X.K c.T M G0 H0 G' H' σ ρ ω' → Ex G G' → R c.X.K G' d w → P d ω' → Q w H'
def EW (c : Cz) (e : Expr) (ρ : Rho) (ω : List Cel) (P : PK) : Prop :=
  ∀ M G0 H0 G H σ, Pre c M G0 H0 → SI c.X.K c.T M G0 H0 G H σ ρ ω → ∀ Q : VK, Kn c M G0 H0 G σ ρ P Q → WE c.X e σ H Q
def TW (c : Cz) (e : Expr) (ρ : Rho) (ω : List Cel) (P : Bool → List Cel → Prop) : Prop :=
  ∀ M G0 H0 G H σ, Pre c M G0 H0 → SI c.X.K c.T M G0 H0 G H σ ρ ω → ∀ Q : Bool → Hp → Prop, (∀ b G' H' ω', SI c.X.K c.T M G0 H0 G' H' σ ρ ω' → Ex G G' → P b ω' → Q b H') → WT c.X e σ H Q
def TWW (c : Cz) (e : Expr) (ρ : Rho) (ω : List Cel) (P : Bool → List Cel → Prop) : Prop :=
  ∀ M G0 H0 G H σ, Pre c M G0 H0 → SI c.X.K c.T M G0 H0 G H σ ρ ω → ∀ Q : Bool → Hp → Prop, (∀ b G' H' ω', SI c.X.K c.T M G0 H0 G' H' σ ρ ω' → Ex G G' → P b ω' → Q b H') → WW c.X e σ H Q
def EA (c : Cz) (es : List Expr) (ρ : Rho) (ω : List Cel) (P : List D → List Cel → Prop) : Prop :=
  ∀ M G0 H0 G H σ, Pre c M G0 H0 → SI c.X.K c.T M G0 H0 G H σ ρ ω → ∀ Q : List V → Hp → Prop, (∀ ws G' H' ds ω', SI c.X.K c.T M G0 H0 G' H' σ ρ ω' → Ex G G' → RS c.X.K G' ds ws → P ds ω' → Q ws H') → WA c.X es σ H Q
/-- a two-place operation -/
def BO (c : Cz) (f : Value → Value → Sem Value) (ρ : Rho) (x y : D) (ω : List Cel) (P : PK) : Prop :=
  ∀ M G0 H0 G H σ v w, Pre c M G0 H0 → SI c.X.K c.T M G0 H0 G H σ ρ ω → R c.X.K G x v → R c.X.K G y w → ∀ Q : VK, Kn c M G0 H0 G σ ρ P Q → WB c.X f v w H Q
def UO (c : Cz) (f : Value → Sem Value) (ρ : Rho) (x : D) (ω : List Cel) (P : PK) : Prop :=
  ∀ M G0 H0 G H σ v, Pre c M G0 H0 → SI c.X.K c.T M G0 H0 G H σ ρ ω → R c.X.K G x v → ∀ Q : VK, Kn c M G0 H0 G σ ρ P Q → WU c.X f v H Q
def CO (c : Cz) (f : Value) (ρ : Rho) (xs : List D) (ω : List Cel) (P : PK) : Prop :=
  ∀ M G0 H0 G H σ vs, Pre c M G0 H0 → SI c.X.K c.T M G0 H0 G H σ ρ ω → RS c.X.K G xs vs → ∀ Q : VK, Kn c M G0 H0 G σ ρ P Q → WC c.X f vs H Q

section
variable {c : Cz} {ρ : Rho} {ω : List Cel} {P : PK} {PB : Bool → List Cel → Prop} {pos : Pos} {x : Str} {e a b : Expr} {es : List Expr} {d : D}

/-! ### names, constants -/
theorem ew_var (i : Nat) (hN : c.X.N[i]? = some x) (hv : Vis c.X.env.scope x) (h : ρ[i]? = some (some d)) (q : P d ω) (hd : (x == ("__debug__" : Str)) = false := by decide) (hcd : (x == ("__classdict__" : Str)) = false := by decide) : EW c (.Name x pos) ρ ω P := by
  intro M G0 H0 G H σ pr S Q k
  obtain ⟨w, e, r⟩ := S.env i d h
  exact WE.of (pe_var hN hv hd hcd) ⟨w, e, k w G H d ω S (Ex.refl G) r q⟩
theorem ew_of {t : V} (h : PE c.X e (tC t)) (hr : R c.X.K (fun _ => none) d t) (q : P d ω) : EW c e ρ ω P := by
  intro M G0 H0 G H σ pr S Q k
  exact WE.of h (k t G H d ω S (Ex.refl G) (hr.mono fun _ _ z => by cases z) q)
theorem ew_int {i : Int} {j} (q : P (.int i) ω) : EW c (.Constant (.int i) j pos) ρ ω P := ew_of (d := .int i) pe_int rfl q
theorem ew_bl {b : Bool} {j} (q : P (.bl b) ω) : EW c (.Constant (.bool b) j pos) ρ ω P := ew_of (d := .bl b) pe_bl rfl q
theorem ew_non {j} (q : P .non ω) : EW c (.Constant .none j pos) ρ ω P := ew_of (d := .non) pe_non rfl q
theorem ew_str {z : Str} {j} (q : P (.str z) ω) : EW c (.Constant (.str z) j pos) ρ ω P := ew_of (d := .str z) pe_str rfl q
theorem ew_glob {u : Value} {t : V} (hm : c.X.mg x = some u) (r : RelV t u) (hr : R c.X.K (fun _ => none) d t) (hg : Gl c.X x) (q : P d ω) (hd : (x == ("__debug__" : Str)) = false := by decide) : EW c (.Name x pos) ρ ω P := ew_of (pe_glob hg hm r hd) hr q
theorem ew_ty {n : String} (hm : c.X.mg x = none) (hv : bootBuiltins x = some (.type n)) (hg : Gl c.X x) (q : P (.v (.ty n)) ω) (hn : x ≠ "__name__" := by decide) (hd : (x == ("__debug__" : Str)) = false := by decide) : EW c (.Name x pos) ρ ω P := by
  have r : L2.RelV (.ty n) (.type n) := rfl
  exact ew_of (d := .v (.ty n)) (pe_bltn hg hm hv r hn hd) rfl q

/-! ### operators -/
theorem ew_bin {op : Operator} (h : EW c a ρ ω fun x ω1 => EW c b ρ ω1 fun y ω2 => BO c (binaryOp op) ρ x y ω2 P) : EW c (.BinOp a op b pos) ρ ω P := by
  intro M G0 H0 G H σ pr S Q k
  refine WE.of (pe_op (WB.opr) WE.pe WE.pe) ?_
  refine h M G0 H0 G H σ pr S _ fun v G1 H1 x ω1 S1 e1 r1 h1 => ?_
  refine h1 M G0 H0 G1 H1 σ pr S1 _ fun w G2 H2 y ω2 S2 e2 r2 h2 => ?_
  exact h2 M G0 H0 G2 H2 σ v w pr S2 (r1.mono e2) r2 Q fun w G' H' d ω' S' e' => k w G' H' d ω' S' (e1.trans (e2.trans e'))
theorem ew_un {op : UnaryOp} (h : EW c a ρ ω fun x ω1 => UO c (unaryOp op) ρ x ω1 P) : EW c (.UnaryOp op a pos) ρ ω P := by
  intro M G0 H0 G H σ pr S Q k
  refine WE.of (pe_un (WU.unr) WE.pe) ?_
  refine h M G0 H0 G H σ pr S _ fun v G1 H1 x ω1 S1 e1 r1 h1 => ?_
  exact h1 M G0 H0 G1 H1 σ v pr S1 r1 Q fun w G' H' d ω' S' e' => k w G' H' d ω' S' (e1.trans e')
theorem ew_cmp {op : CmpOp} (hm : behindInMarks op b = false) (h : EW c a ρ ω fun x ω1 => EW c b ρ ω1 fun y ω2 => BO c (compareOp op) ρ x y ω2 P) : EW c (.Compare a [op] [b] pos) ρ ω P := by
  intro M G0 H0 G H σ pr S Q k
  refine WE.of (pe_cmpR (WB.opr) WE.pe WE.pe hm) ?_
  refine h M G0 H0 G H σ pr S _ fun v G1 H1 x ω1 S1 e1 r1 h1 => ?_
  refine h1 M G0 H0 G1 H1 σ pr S1 _ fun w G2 H2 y ω2 S2 e2 r2 h2 => ?_
  exact h2 M G0 H0 G2 H2 σ v w pr S2 (r1.mono e2) r2 Q fun w G' H' d ω' S' e' => k w G' H' d ω' S' (e1.trans (e2.trans e'))
theorem tw_cmp {op : CmpOp} (hm : behindInMarks op b = false) (h : EW c a ρ ω fun x ω1 => EW c b ρ ω1 fun y ω2 => BO c (compareOp op) ρ x y ω2 fun z ω3 => ∃ t, z = .bl t ∧ PB t ω3) : TW c (.Compare a [op] [b] pos) ρ ω PB := by
  intro M G0 H0 G H σ pr S Q k
  refine WT.of (pt_cmpR (WB.opr) WE.pe WE.pe hm) ?_
  refine h M G0 H0 G H σ pr S _ fun v G1 H1 x ω1 S1 e1 r1 h1 => ?_
  refine h1 M G0 H0 G1 H1 σ pr S1 _ fun w G2 H2 y ω2 S2 e2 r2 h2 => ?_
  refine h2 M G0 H0 G2 H2 σ v w pr S2 (r1.mono e2) r2 _ fun w G' H' d ω' S' e' r' ⟨t, ed, q⟩ => ?_
  subst ed
  exact ⟨t, r', k t G' H' ω' S' (e1.trans (e2.trans e')) q⟩
/-- a op b op' d -/
theorem ew_chain {op op' : CmpOp} {d : Expr} (h : EW c a ρ ω fun x ω1 => EW c b ρ ω1 fun y ω2 => BO c (compareOp op) ρ x y ω2 fun z ω3 => ∃ t, z = .bl t ∧ if t = true then EW c d ρ ω3 (fun w ω4 => BO c (compareOp op') ρ y w ω4 P) else P (.bl false) ω3)
    (hm : lastMarks [op, op'] [b, d] = false := by with_unfolding_all rfl) : EW c (.Compare a [op, op'] [b, d] pos) ρ ω P := by
  intro M G0 H0 G H σ pr S Q k
  refine WE.of (pe_chain (WB.opr) (WB.opr) WE.pe WE.pe WE.pe hm) ?_
  refine h M G0 H0 G H σ pr S _ fun v G1 H1 x ω1 S1 e1 r1 h1 => ?_
  refine h1 M G0 H0 G1 H1 σ pr S1 _ fun w G2 H2 y ω2 S2 e2 r2 h2 => ?_
  refine h2 M G0 H0 G2 H2 σ v w pr S2 (r1.mono e2) r2 _ fun z G3 H3 dd ω3 S3 e3 r3 ⟨t, ed, q⟩ => ?_
  subst ed
  refine ⟨t, r3, ?_⟩
  cases t with
  | true =>
    rw [if_pos rfl] at q ⊢
    refine q M G0 H0 G3 H3 σ pr S3 _ fun u G4 H4 z4 ω4 S4 e4 r4 h4 => ?_
    exact h4 M G0 H0 G4 H4 σ w u pr S4 (r2.mono (e3.trans e4)) r4 Q fun w G' H' d ω' S' e' => k w G' H' d ω' S' (e1.trans (e2.trans (e3.trans (e4.trans e'))))
  | false =>
    rw [if_neg Bool.false_ne_true] at q ⊢
    exact k _ G3 H3 (.bl false) ω3 S3 (e1.trans (e2.trans e3)) rfl q
theorem tw_val (he : ∀ whole, isTrue e c.X.env whole = (do let v ← whole; standAt e.pos; holding [v] (truthy v)) := by intro _; rfl) (h : EW c e ρ ω fun z ω1 => ∃ t, z = .bl t ∧ PB t ω1) : TW c e ρ ω PB := by
  intro M G0 H0 G H σ pr S Q k
  refine WT.of (pt_val WE.pe he) ?_
  refine h M G0 H0 G H σ pr S _ fun v G1 H1 x ω1 S1 e1 r1 ⟨t, ed, q⟩ => ?_
  subst ed
  exact ⟨t, r1, k t G1 H1 ω1 S1 e1 q⟩
theorem tw_ww (h : TWW c e ρ ω PB) : TW c e ρ ω PB := fun M G0 H0 G H σ pr S Q k => (h M G0 H0 G H σ pr S Q k).wt
theorem tw_and1 (h : TW c a ρ ω PB) : TWW c (.BoolOp .And [a] pos) ρ ω PB := fun M G0 H0 G H σ pr S Q k => WW.of (pw_and1 WT.pt) (h M G0 H0 G H σ pr S Q k)
theorem tw_or1 (h : TW c a ρ ω PB) : TWW c (.BoolOp .Or [a] pos) ρ ω PB := fun M G0 H0 G H σ pr S Q k => WW.of (pw_or1 WT.pt) (h M G0 H0 G H σ pr S Q k)
theorem tw_and {rest : List Expr} (h : TW c a ρ ω fun t ω1 => if t = true then TWW c (.BoolOp .And (b :: rest) pos) ρ ω1 PB else PB false ω1) : TWW c (.BoolOp .And (a :: b :: rest) pos) ρ ω PB := by
  intro M G0 H0 G H σ pr S Q k
  refine WW.of (pw_and WT.pt WW.pw) ?_
  refine h M G0 H0 G H σ pr S _ fun t G1 H1 ω1 S1 e1 q => ?_
  cases t with
  | true =>
    rw [if_pos rfl] at q ⊢
    exact q M G0 H0 G1 H1 σ pr S1 Q fun t G' H' ω' S' e' => k t G' H' ω' S' (e1.trans e')
  | false =>
    rw [if_neg Bool.false_ne_true] at q ⊢
    exact k false G1 H1 ω1 S1 e1 q
theorem tw_or {rest : List Expr} (h : TW c a ρ ω fun t ω1 => if t = true then PB true ω1 else TWW c (.BoolOp .Or (b :: rest) pos) ρ ω1 PB) : TWW c (.BoolOp .Or (a :: b :: rest) pos) ρ ω PB := by
  intro M G0 H0 G H σ pr S Q k
  refine WW.of (pw_or WT.pt WW.pw) ?_
  refine h M G0 H0 G H σ pr S _ fun t G1 H1 ω1 S1 e1 q => ?_
  cases t with
  | true =>
    rw [if_pos rfl] at q ⊢
    exact k true G1 H1 ω1 S1 e1 q
  | false =>
    rw [if_neg Bool.false_ne_true] at q ⊢
    exact q M G0 H0 G1 H1 σ pr S1 Q fun t G' H' ω' S' e' => k t G' H' ω' S' (e1.trans e')
theorem tw_not (h : TW c a ρ ω fun t ω1 => PB (!t) ω1) : TW c (.UnaryOp .Not a pos) ρ ω PB := by
  intro M G0 H0 G H σ pr S Q k
  refine WT.of (pt_not WT.pt) ?_
  exact h M G0 H0 G H σ pr S _ fun t G1 H1 ω1 S1 e1 q => k (!t) G1 H1 ω1 S1 e1 q
theorem ew_not (h : EW c a ρ ω fun z ω1 => ∃ t, z = .bl t ∧ P (.bl (!t)) ω1) : EW c (.UnaryOp .Not a pos) ρ ω P := by
  intro M G0 H0 G H σ pr S Q k
  refine WE.of (pe_not WE.pe) ?_
  refine h M G0 H0 G H σ pr S _ fun v G1 H1 x ω1 S1 e1 r1 ⟨t, ed, q⟩ => ?_
  subst ed
  exact ⟨t, r1, k _ G1 H1 (.bl (!t)) ω1 S1 e1 rfl q⟩
theorem ew_one {op} (h : EW c a ρ ω P) : EW c (.BoolOp op [a] pos) ρ ω P := fun M G0 H0 G H σ pr S Q k => WE.of (pe_one WE.pe) (h M G0 H0 G H σ pr S Q k)
theorem ew_and {rest : List Expr} (h : EW c a ρ ω fun z ω1 => ∃ t, z = .bl t ∧ if t = true then EW c (.BoolOp .And (b :: rest) pos) ρ ω1 P else P (.bl false) ω1) : EW c (.BoolOp .And (a :: b :: rest) pos) ρ ω P := by
  intro M G0 H0 G H σ pr S Q k
  refine WE.of (pe_and WE.pe WE.pe) ?_
  refine h M G0 H0 G H σ pr S _ fun v G1 H1 x ω1 S1 e1 r1 ⟨t, ed, q⟩ => ?_
  subst ed
  refine ⟨t, r1, ?_⟩
  cases t with
  | true =>
    rw [if_pos rfl] at q ⊢
    exact q M G0 H0 G1 H1 σ pr S1 Q fun w G' H' d ω' S' e' => k w G' H' d ω' S' (e1.trans e')
  | false =>
    rw [if_neg Bool.false_ne_true] at q ⊢
    exact k _ G1 H1 (.bl false) ω1 S1 e1 rfl q
theorem ew_or {rest : List Expr} (h : EW c a ρ ω fun z ω1 => ∃ t, z = .bl t ∧ if t = true then P (.bl true) ω1 else EW c (.BoolOp .Or (b :: rest) pos) ρ ω1 P) : EW c (.BoolOp .Or (a :: b :: rest) pos) ρ ω P := by
  intro M G0 H0 G H σ pr S Q k
  refine WE.of (pe_or WE.pe WE.pe) ?_
  refine h M G0 H0 G H σ pr S _ fun v G1 H1 x ω1 S1 e1 r1 ⟨t, ed, q⟩ => ?_
  subst ed
  refine ⟨t, r1, ?_⟩
  cases t with
  | true =>
    rw [if_pos rfl] at q ⊢
    exact k _ G1 H1 (.bl true) ω1 S1 e1 rfl q
  | false =>
    rw [if_neg Bool.false_ne_true] at q ⊢
    exact q M G0 H0 G1 H1 σ pr S1 Q fun w G' H' d ω' S' e' => k w G' H' d ω' S' (e1.trans e')
theorem ew_ifExp {t : Expr} (h : TW c t ρ ω fun z ω1 => if z = true then EW c a ρ ω1 P else EW c b ρ ω1 P) : EW c (.IfExp t a b pos) ρ ω P := by
  intro M G0 H0 G H σ pr S Q k
  refine WE.of (pe_ifExp WT.pt WE.pe WE.pe) ?_
  refine h M G0 H0 G H σ pr S _ fun t G1 H1 ω1 S1 e1 q => ?_
  cases t with
  | true =>
    rw [if_pos rfl] at q ⊢
    exact q M G0 H0 G1 H1 σ pr S1 Q fun w G' H' d ω' S' e' => k w G' H' d ω' S' (e1.trans e')
  | false =>
    rw [if_neg Bool.false_ne_true] at q ⊢
    exact q M G0 H0 G1 H1 σ pr S1 Q fun w G' H' d ω' S' e' => k w G' H' d ω' S' (e1.trans e')
/-! ### arguments, displays -/
theorem ea_nil {PA' : List D → List Cel → Prop} (q : PA' [] ω) : EA c [] ρ ω PA' := by
  intro M G0 H0 G H σ pr S Q k
  exact WA.of pa_nil (k [] G H [] ω S (Ex.refl G) rfl q)
theorem ea_cons {PA' : List D → List Cel → Prop} (h : EW c e ρ ω fun d ω1 => EA c es ρ ω1 fun ds ω2 => PA' (d :: ds) ω2) (hs : starEach (e :: es) c.X.env = (false, eval e c.X.env) :: starEach es c.X.env := by rfl) : EA c (e :: es) ρ ω PA' := by
  intro M G0 H0 G H σ pr S Q k
  refine WA.of (pa_cons WE.pe WA.pa hs) ?_
  refine h M G0 H0 G H σ pr S _ fun v G1 H1 x ω1 S1 e1 r1 h1 => ?_
  exact h1 M G0 H0 G1 H1 σ pr S1 _ fun ws G2 H2 ds ω2 S2 e2 r2 q => k (v :: ws) G2 H2 (x :: ds) ω2 S2 (e1.trans e2) ⟨v, ws, rfl, r1.mono e2, r2⟩ q
theorem SI.layT {K : PySem.W.Frag} {T : List (Addr × Str)} {M : List Addr} {G0 H0 G H : Hp} {σ : L2.St} (S : SI K T M G0 H0 G H σ ρ ω) {p : Addr} {ds : List D} {vs : List V} (np : H p = none) (r : RS K G ds vs) :
    SI K T M G0 H0 (upd G p (.tup vs)) (upd H p (.tup vs)) σ ρ ω ∧ Ex G (upd G p (.tup vs)) ∧ R K (upd G p (.tup vs)) (.tup ds) (.ref p) := by
  have A : Adv T [] G H (upd G p (.tup vs)) (upd H p (.tup vs)) := Adv.lay S.gh S.adv.tab S.adv.fz np True.intro
  exact ⟨S.step A, A.gg, p, vs, rfl, .inl (.inl upd_same), r.mono A.gg⟩
theorem SI.layL {K : PySem.W.Frag} {T : List (Addr × Str)} {M : List Addr} {G0 H0 G H : Hp} {σ : L2.St} (S : SI K T M G0 H0 G H σ ρ ω) {p : Addr} {ds : List D} {vs : List V} (np : H p = none) (r : RS K G ds vs) :
    SI K T M G0 H0 (upd G p (.lst vs)) (upd H p (.lst vs)) σ ρ ω ∧ Ex G (upd G p (.lst vs)) ∧ R K (upd G p (.lst vs)) (.lst ds) (.ref p) := by
  have A : Adv T [] G H (upd G p (.lst vs)) (upd H p (.lst vs)) := Adv.lay S.gh S.adv.tab S.adv.fz np True.intro
  exact ⟨S.step A, A.gg, p, vs, rfl, .inl upd_same, r.mono A.gg⟩
theorem SI.layO {K : PySem.W.Frag} {T : List (Addr × Str)} {M : List Addr} {G0 H0 G H : Hp} {σ : L2.St} (S : SI K T M G0 H0 G H σ ρ ω) {p : Addr} {ds : List D} {vs : List V} (np : H p = none) (r : RS K G ds vs) :
    SI K T M G0 H0 G (upd H p (.lst vs)) σ ρ (ω ++ [⟨p, false, .lst ds⟩]) := S.cell np ⟨vs, upd_same, r⟩
theorem ew_tup {x1} (h : EA c es ρ ω fun ds ω1 => ds.length ≤ sizeLine ∧ P (.tup ds) ω1) : EW c (.Tuple es x1 pos) ρ ω P := by
  intro M G0 H0 G H σ pr S Q k
  refine WE.of (pe_tup WA.pa) ?_
  refine h M G0 H0 G H σ pr S _ fun ws G1 H1 ds ω1 S1 e1 r1 ⟨hl, q⟩ => ⟨by rw [← r1.length]; exact hl, fun p np => ?_⟩
  obtain ⟨S2, e2, r2⟩ := S1.layT np r1
  exact k _ _ _ (.tup ds) ω1 S2 (e1.trans e2) r2 q
theorem ew_lst (h : EA c es ρ ω fun ds ω1 => ds.length ≤ sizeLine ∧ P (.lst ds) ω1) : EW c (.List es pos) ρ ω P := by
  intro M G0 H0 G H σ pr S Q k
  refine WE.of (pe_lst WA.pa) ?_
  refine h M G0 H0 G H σ pr S _ fun ws G1 H1 ds ω1 S1 e1 r1 ⟨hl, q⟩ => ⟨by rw [← r1.length]; exact hl, fun p np => ?_⟩
  obtain ⟨S2, e2, r2⟩ := S1.layL np r1
  exact k _ _ _ (.lst ds) ω1 S2 (e1.trans e2) r2 q
theorem ew_lstO (h : EA c es ρ ω fun ds ω1 => ds.length ≤ sizeLine ∧ ∀ p, P (.v (.ref p)) (ω1 ++ [⟨p, false, .lst ds⟩])) : EW c (.List es pos) ρ ω P := by
  intro M G0 H0 G H σ pr S Q k
  refine WE.of (pe_lst WA.pa) ?_
  refine h M G0 H0 G H σ pr S _ fun ws G1 H1 ds ω1 S1 e1 r1 ⟨hl, q⟩ => ⟨by rw [← r1.length]; exact hl, fun p np => ?_⟩
  exact k _ _ _ (.v (.ref p)) _ (S1.layO np r1) e1 rfl (q p)
/-! ### calls of built-ins -/
theorem ew_callB {id : String} {p : Pos} (hm : c.X.mg x = none) (hv : bootBuiltins x = some (.builtin id)) (hg : Gl c.X x) (h : EA c (e :: es) ρ ω fun ds ω1 => CO c (.builtin id) ρ ds ω1 P) (hn : x ≠ "__name__" := by decide) (hdb : (x == ("__debug__" : Str)) = false := by decide)
    (he : starEach (e :: es) c.X.env = (false, eval e c.X.env) :: starEach es c.X.env := by rfl) (hpl : (backTo pos (starEach es c.X.env)).any (·.1) = false := by rfl) : EW c (.Call (.Name x p) (e :: es) [] pos) ρ ω P := by
  intro M G0 H0 G H σ pr S Q k
  refine WE.of (pe_callB WC.callr hg hm hv WA.pa hn hdb he hpl) ?_
  refine h M G0 H0 G H σ pr S _ fun ws G1 H1 ds ω1 S1 e1 r1 q => ?_
  exact q M G0 H0 G1 H1 σ ws pr S1 r1 Q fun w G' H' d ω' S' e' => k w G' H' d ω' S' (e1.trans e')
theorem ew_callTy {n : String} {p : Pos} (hm : c.X.mg x = none) (hv : bootBuiltins x = some (.type n)) (hg : Gl c.X x) (h : EA c (e :: es) ρ ω fun ds ω1 => CO c (.type n) ρ ds ω1 P) (hn : x ≠ "__name__" := by decide) (hdb : (x == ("__debug__" : Str)) = false := by decide)
    (he : starEach (e :: es) c.X.env = (false, eval e c.X.env) :: starEach es c.X.env := by rfl) (hpl : (backTo pos (starEach es c.X.env)).any (·.1) = false := by rfl) : EW c (.Call (.Name x p) (e :: es) [] pos) ρ ω P := by
  intro M G0 H0 G H σ pr S Q k
  refine WE.of (pe_callTy WC.callr hg hm hv WA.pa hn hdb he hpl) ?_
  refine h M G0 H0 G H σ pr S _ fun ws G1 H1 ds ω1 S1 e1 r1 q => ?_
  exact q M G0 H0 G1 H1 σ ws pr S1 r1 Q fun w G' H' d ω' S' e' => k w G' H' d ω' S' (e1.trans e')
end
end DL

namespace DL
open PySem PySem.Spec PyProof.Rows L2

/-! ### blocks -/
abbrev SK := Rho → List Cel → Prop
structure PD where
  nx : SK
  rt : PK
  bk : SK := fun _ _ => False
  ct : SK := fun _ _ => False
/-- an HandS end that the wishes lead to -/
structure KnS (c : Cz) (M : List Addr) (G0 H0 G : Hp) (W : PD) (De : Ends) : Prop where
  nx : ∀ σ' G' H' ρ' ω', SI c.X.K c.T M G0 H0 G' H' σ' ρ' ω' → Ex G G' → W.nx ρ' ω' → De.nx σ' H'
  rt : ∀ w σ' G' H' ρ' d ω', SI c.X.K c.T M G0 H0 G' H' σ' ρ' ω' → Ex G G' → R c.X.K G' d w → W.rt d ω' → De.rt w H'
  bk : ∀ σ' G' H' ρ' ω', SI c.X.K c.T M G0 H0 G' H' σ' ρ' ω' → Ex G G' → W.bk ρ' ω' → De.bk σ' H'
  ct : ∀ σ' G' H' ρ' ω', SI c.X.K c.T M G0 H0 G' H' σ' ρ' ω' → Ex G G' → W.ct ρ' ω' → De.ct σ' H'
theorem KnS.mono {c : Cz} {M : List Addr} {G0 H0 G G1 : Hp} {W : PD} {De : Ends} (k : KnS c M G0 H0 G W De) (e : Ex G G1) : KnS c M G0 H0 G1 W De :=
  ⟨fun σ' G' H' ρ' ω' S a => k.nx σ' G' H' ρ' ω' S (e.trans a), fun w σ' G' H' ρ' d ω' S a => k.rt w σ' G' H' ρ' d ω' S (e.trans a), fun σ' G' H' ρ' ω' S a => k.bk σ' G' H' ρ' ω' S (e.trans a), fun σ' G' H' ρ' ω' S a => k.ct σ' G' H' ρ' ω' S (e.trans a)⟩
def SW (c : Cz) (ss : List Stmt) (ρ : Rho) (ω : List Cel) (W : PD) : Prop :=
  ∀ M G0 H0 G H σ, Pre c M G0 H0 → SI c.X.K c.T M G0 H0 G H σ ρ ω → ∀ De : Ends, KnS c M G0 H0 G W De → WS c.X ss De σ H
def SW1 (c : Cz) (st : Stmt) (ρ : Rho) (ω : List Cel) (W : PD) : Prop :=
  ∀ M G0 H0 G H σ, Pre c M G0 H0 → SI c.X.K c.T M G0 H0 G H σ ρ ω → ∀ De : Ends, KnS c M G0 H0 G W De → WS1 c.X st De σ H
/-- a target -/
def GW (c : Cz) (tg : Expr) (d : D) (ρ : Rho) (ω : List Cel) (N : SK) : Prop :=
  ∀ M G0 H0 G H σ w, Pre c M G0 H0 → SI c.X.K c.T M G0 H0 G H σ ρ ω → R c.X.K G d w → ∀ Q : L2.St → Hp → Prop, (∀ σ' G' H' ρ' ω', SI c.X.K c.T M G0 H0 G' H' σ' ρ' ω' → Ex G G' → N ρ' ω' → Q σ' H') →
    ∀ (pins : List (Addr × Obj)) (s : Shared) (u : Value), Inv c.X pins σ H s → RelV w u → wpAny (model c.X.prog c.X.w) c.X.A (assign tg c.X.env u) (fun _ s' => ∃ σ' H', Inv c.X pins σ' H' s' ∧ Q σ' H') c.X.xe s

section
variable {c : Cz} {ρ : Rho} {ω : List Cel} {W : PD} {pos : Pos} {x : Str} {e a b : Expr} {es : List Expr} {d : D} {st : Stmt} {rest : List Stmt}
theorem sw_nil (q : W.nx ρ ω) : SW c [] ρ ω W := fun M G0 H0 G H σ pr S De k => WS.of pss_nil (k.nx σ G H ρ ω S (Ex.refl G) q)
theorem sw_cons (h : SW1 c st ρ ω { W with nx := fun ρ' ω' => SW c rest ρ' ω' W }) : SW c (st :: rest) ρ ω W := by
  intro M G0 H0 G H σ pr S De k
  refine WS.of (pss_cons WS1.ps WS.pss) ?_
  refine h M G0 H0 G H σ pr S _ ⟨fun σ' G' H' ρ' ω' S' e q => ?_, k.rt, k.bk, k.ct⟩
  exact q M G0 H0 G' H' σ' pr S' De (k.mono e)
theorem s1_expr (h : EW c e ρ ω fun _ ω1 => W.nx ρ ω1) (hs : swapsWith e none pos.line c.X.env = pure false := by rfl) : SW1 c (.Expr e pos) ρ ω W := by
  intro M G0 H0 G H σ pr S De k
  refine WS1.of (ps_expr WE.pe hs) ?_
  exact h M G0 H0 G H σ pr S _ fun w G' H' d ω' S' e' r q => k.nx σ G' H' ρ ω' S' e' q
theorem s1_doc {z : Str} {j pos'} (q : W.nx ρ ω) : SW1 c (.Expr (.Constant (.str z) j pos) pos') ρ ω W := fun M G0 H0 G H σ pr S De k => WS1.of ps_doc (k.nx σ G H ρ ω S (Ex.refl G) q)
theorem s1_pass (q : W.nx ρ ω) : SW1 c (.Pass pos) ρ ω W := fun M G0 H0 G H σ pr S De k => WS1.of ps_pass (k.nx σ G H ρ ω S (Ex.refl G) q)
theorem s1_break (q : W.bk ρ ω) : SW1 c (.Break pos) ρ ω W := fun M G0 H0 G H σ pr S De k => WS1.of ps_break (k.bk σ G H ρ ω S (Ex.refl G) q)
theorem s1_continue (q : W.ct ρ ω) : SW1 c (.Continue pos) ρ ω W := fun M G0 H0 G H σ pr S De k => WS1.of ps_continue (k.ct σ G H ρ ω S (Ex.refl G) q)
theorem s1_ret (h : EW c e ρ ω fun d ω1 => W.rt d ω1) : SW1 c (.Return (some e) pos) ρ ω W := by
  intro M G0 H0 G H σ pr S De k
  refine WS1.of (ps_ret WE.pe) ?_
  exact h M G0 H0 G H σ pr S _ fun w G' H' d ω' S' e' r q => k.rt w σ G' H' ρ d ω' S' e' r q
theorem s1_retN (q : W.rt .non ω) : SW1 c (.Return none pos) ρ ω W := fun M G0 H0 G H σ pr S De k => WS1.of ps_retN (k.rt .non σ G H ρ .non ω S (Ex.refl G) rfl q)
theorem s1_if {t : Expr} {A B : List Stmt} (h : TW c t ρ ω fun z ω1 => if z = true then SW c A ρ ω1 W else SW c B ρ ω1 W) : SW1 c (.If t A B pos) ρ ω W := by
  intro M G0 H0 G H σ pr S De k
  refine WS1.of (ps_if WT.pt WS.pss WS.pss) ?_
  refine h M G0 H0 G H σ pr S _ fun t G1 H1 ω1 S1 e1 q => ?_
  cases t with
  | true =>
    rw [if_pos rfl] at q ⊢
    exact q M G0 H0 G1 H1 σ pr S1 De (k.mono e1)
  | false =>
    rw [if_neg Bool.false_ne_true] at q ⊢
    exact q M G0 H0 G1 H1 σ pr S1 De (k.mono e1)
/-- name = value -/
theorem s1_set (i : Nat) {pos' : Pos} (hi : c.X.N[i]? = some x) (hx : Loc c.X.env.scope x) (h : EW c e ρ ω fun d ω1 => W.nx (ρ.set i (some d)) ω1) (hs : swapsWith e (some (.Name x pos')) pos.line c.X.env = pure false := by rfl)
    (hf : c.X.fn x = true ∨ c.X.env.scope.names.lookup x = some .local := by first | exact .inl rfl | exact .inr rfl | assumption) : SW1 c (.Assign [.Name x pos'] e pos) ρ ω W := by
  intro M G0 H0 G H σ pr S De k pins s I
  refine (WS1.of (De := De) (ps_set pr.nd hi hx WE.pe hs hf) ?_) pins s I
  refine h M G0 H0 G H σ pr S _ fun w G' H' d ω' S' e' r q => ?_
  exact k.nx _ G' H' _ ω' (S'.store r (by rw [I.len]; exact (List.getElem?_eq_some_iff.mp hi).1)) e' q
theorem gw_name (i : Nat) {N : SK} (hi : c.X.N[i]? = some x) (hx : Loc c.X.env.scope x) (q : N (ρ.set i (some d)) ω) (hf : c.X.fn x = true ∨ c.X.env.scope.names.lookup x = some .local := by first | exact .inl rfl | exact .inr rfl | assumption) : GW c (.Name x pos) d ρ ω N := by
  intro M G0 H0 G H σ w pr S r Q k pins s u I ru
  refine (pg_name pr.nd hi hx hf).run pins s σ H w u Q I ru ?_
  exact k _ G H _ ω (S.store r (by rw [I.len]; exact (List.getElem?_eq_some_iff.mp hi).1)) (Ex.refl G) q
/-- a = b, by a target -/
theorem s1_asg {tg : Expr} (h : EW c e ρ ω fun d ω1 => GW c tg d ρ ω1 W.nx) (hs : swapsWithSole [tg] e pos.line c.X.env = pure false := by rfl) (hw : swappedStores [tg] e c.X.env = pure none := by rfl)
    (h1 : (assignEach [tg] c.X.env).map (·.2) = [assign tg c.X.env] := by rfl) : SW1 c (.Assign [tg] e pos) ρ ω W := by
  intro M G0 H0 G H σ pr S De k pins s I
  refine wpAny_Assign_stores (thn (h M G0 H0 G H σ pr S (fun w H1 => ∀ (pins : List (Addr × Obj)) (s : Shared) (u : Value), Inv c.X pins σ H1 s → RelV w u → wpAny (model c.X.prog c.X.w) c.X.A (assign tg c.X.env u) (fun _ s' => ∃ σ' H', Inv c.X pins σ' H' s' ∧ De.nx σ' H') c.X.xe s)
    (fun w G' H' d ω' S' e' r q => q M G0 H0 G' H' σ w pr S' r De.nx fun σ2 G2 H2 ρ2 ω2 S2 e2 q2 => k.nx σ2 G2 H2 ρ2 ω2 S2 (e'.trans e2) q2) pins s I) fun v s1 ⟨w, H1, I1, r1, q1⟩ => ?_) hs hw
  rw [h1]
  exact thn (q1 pins s1 v I1 r1) fun _ s2 q => q
/-- several targets -/
def GsW (c : Cz) (ts : List Expr) (ds : List D) (ρ : Rho) (ω : List Cel) (N : SK) : Prop :=
  ∀ M G0 H0 G H σ ws, Pre c M G0 H0 → SI c.X.K c.T M G0 H0 G H σ ρ ω → RS c.X.K G ds ws → ∀ Q : L2.St → Hp → Prop, (∀ σ' G' H' ρ' ω', SI c.X.K c.T M G0 H0 G' H' σ' ρ' ω' → Ex G G' → N ρ' ω' → Q σ' H') →
    ∀ (pins : List (Addr × Obj)) (s : Shared) (us : List Value), Inv c.X pins σ H s → Vals ws us → wpAny (model c.X.prog c.X.w) c.X.A (assignInOrder ((assignEach ts c.X.env).map (·.2)) us) (fun _ s' => ∃ σ' H', Inv c.X pins σ' H' s' ∧ Q σ' H') c.X.xe s
theorem gs_nil {N : SK} (q : N ρ ω) : GsW c [] [] ρ ω N := by
  intro M G0 H0 G H σ ws pr S r Q k pins s us I ru
  cases r
  cases ru
  exact assignInOrder_nil ⟨σ, H, I, k σ G H ρ ω S (Ex.refl G) q⟩
theorem gs_cons {tg : Expr} {ts : List Expr} {ds : List D} {N : SK} (h : GW c tg d ρ ω fun ρ1 ω1 => GsW c ts ds ρ1 ω1 N) (hs : (assignEach (tg :: ts) c.X.env).map (·.2) = assign tg c.X.env :: (assignEach ts c.X.env).map (·.2) := by rfl) : GsW c (tg :: ts) (d :: ds) ρ ω N := by
  intro M G0 H0 G H σ ws pr S r Q k pins s us I ru
  obtain ⟨w, wr, ew, r1, r2⟩ := r
  subst ew
  cases ru with
  | cons q1 q2 =>
    rw [hs]
    refine assignInOrder_cons (thn (h M G0 H0 G H σ w pr S r1 (fun σ1 H1 => ∀ (pins : List (Addr × Obj)) (s : Shared) (us : List Value), Inv c.X pins σ1 H1 s → Vals wr us → wpAny (model c.X.prog c.X.w) c.X.A (assignInOrder ((assignEach ts c.X.env).map (·.2)) us) (fun _ s' => ∃ σ' H', Inv c.X pins σ' H' s' ∧ Q σ' H') c.X.xe s)
      (fun σ1 G1 H1 ρ1 ω1 S1 e1 q => q M G0 H0 G1 H1 σ1 wr pr S1 (r2.mono e1) Q fun σ2 G2 H2 ρ2 ω2 S2 e2 => k σ2 G2 H2 ρ2 ω2 S2 (e1.trans e2)) pins s _ I q1) fun _ s1 ⟨σ1, H1, I1, h1⟩ => ?_)
    exact h1 pins s1 _ I1 q2
theorem gw_tup {ts : List Expr} {ds : List D} {j : Nat} {N : SK} (h : GsW c ts ds ρ ω N) (hl : ds.length = ts.length := by rfl) (hn : (assignEach ts c.X.env).length = ts.length := by rfl) (hst : (assignEach ts c.X.env).findIdx? (·.1) = none := by rfl) : GW c (.Tuple ts j pos) (.tup ds) ρ ω N := by
  intro M G0 H0 G H σ w pr S r Q k pins s u I ru
  obtain ⟨p, vs, ew, hq, rv⟩ := r
  subst ew
  cases ru
  obtain ⟨its, rr, ht, hz⟩ := I.tuple (S.gh.sqT hq)
  refine assign_Tuple_tuple (I.ok.hd pr.calm) ht (by simp [hn, ← hl, rv.length, ← rr.length]) hst fun h' hx => ?_
  have I1 : Inv c.X pins σ H { s with heap := h' } := I.kept (t' := s.toks) fun b o e => hx b o (Nat.ne_of_lt (Heap.lt_size e)) e
  exact h M G0 H0 G H σ vs pr S rv Q k pins _ _ I1 (by simpa using rr)
/-- a, b = x, y of plain locals -/
theorem s1_par (i j : Nat) {x y : Str} {px py pt : Pos} {kt k2 pt2} (hi : c.X.N[i]? = some x) (hj : c.X.N[j]? = some y) (hx : c.X.env.scope.names.lookup x = some .local) (hy : c.X.env.scope.names.lookup y = some .local)
    (h : EW c a ρ ω fun d ω1 => EW c b ρ ω1 fun d' ω2 => W.nx ((ρ.set i (some d)).set j (some d')) ω2) (hij : i ≠ j := by decide)
    (hw : swappedStores [.Tuple [.Name x px, .Name y py] kt pt] (.Tuple [a, b] k2 pt2) c.X.env = pure (some [x, y]) := by rfl)
    (hs : swapsWithSole [.Tuple [.Name x px, .Name y py] kt pt] (.Tuple [a, b] k2 pt2) pos.line c.X.env = pure false := by rfl)
    (s1 : starEach [a, b] c.X.env = (false, eval a c.X.env) :: starEach [b] c.X.env := by rfl) (s2 : starEach [b] c.X.env = (false, eval b c.X.env) :: starEach [] c.X.env := by rfl) :
    SW1 c (.Assign [.Tuple [.Name x px, .Name y py] kt pt] (.Tuple [a, b] k2 pt2) pos) ρ ω W := by
  intro M G0 H0 G H σ pr S De k pins s I
  refine (WS1.of (De := De) (ps_par pr.calm pr.nd hi hj hij hx hy (pa_cons WE.pe (pa_cons WE.pe pa_nil s2) s1) hw hs) ?_) pins s I
  refine h M G0 H0 G H σ pr S _ fun w G1 H1 d1 ω1 S1 e1 r1 h1 => ?_
  refine h1 M G0 H0 G1 H1 σ pr S1 _ fun w' G2 H2 d2 ω2 S2 e2 r2 q => ?_
  have li : i < σ.length := by rw [I.len]; exact (List.getElem?_eq_some_iff.mp hi).1
  have lj : j < σ.length := by rw [I.len]; exact (List.getElem?_eq_some_iff.mp hj).1
  exact ⟨w, w', rfl, k.nx _ G2 H2 _ ω2 ((S2.store (r1.mono e2) li).store r2 (by rw [List.length_set]; exact lj)) (e1.trans e2) q⟩
/-! ### ghosts -/
theorem sw_freeze (j i : Nat) {p : Addr} {ds : List D} (hc : ω[j]? = some ⟨p, false, .lst ds⟩) (hi : ρ[i]? = some (some (.v (.ref p)))) (h : SW c rest (ρ.set i (some (.lst ds))) (ω.eraseIdx j) W) : SW c rest ρ ω W := by
  intro M G0 H0 G H σ pr S De k
  obtain ⟨G', e, r, S'⟩ := S.freeze hc
  refine h M G0 H0 G' H σ pr ?_ De (k.mono e)
  obtain ⟨w, e1, r1⟩ := S.env i _ hi
  have ew : w = .ref p := r1
  subst ew
  have z := S'.store r (List.getElem?_eq_some_iff.mp e1).1
  have es : σ.set i (some (V.ref p)) = σ := by
    refine List.ext_getElem? fun n => ?_
    rw [List.getElem?_set]
    split
    · rename_i h; subst h; rw [e1]; rw [if_pos (List.getElem?_eq_some_iff.mp e1).1]
    · rfl
  rw [es] at z
  exact z
theorem sw_weak {ρ' : Rho} (hl : ρ'.length = ρ.length) (hw : ∀ (i : Nat) (d : D), ρ'[i]? = some (some d) → ρ[i]? = some (some d)) (h : SW c rest ρ' ω W) : SW c rest ρ ω W :=
  fun M G0 H0 G H σ pr S De k => h M G0 H0 G H σ pr (S.weak hl hw) De k
theorem sw_imp {W' : PD} (h : SW c rest ρ ω W') (n : ∀ ρ ω, W'.nx ρ ω → W.nx ρ ω) (r : ∀ d ω, W'.rt d ω → W.rt d ω) (b : ∀ ρ ω, W'.bk ρ ω → W.bk ρ ω) (t : ∀ ρ ω, W'.ct ρ ω → W.ct ρ ω) : SW c rest ρ ω W :=
  fun M G0 H0 G H σ pr S De k => h M G0 H0 G H σ pr S De ⟨fun σ' G' H' ρ' ω' S' e q => k.nx σ' G' H' ρ' ω' S' e (n _ _ q), fun w σ' G' H' ρ' d ω' S' e r' q => k.rt w σ' G' H' ρ' d ω' S' e r' (r _ _ q), fun σ' G' H' ρ' ω' S' e q => k.bk σ' G' H' ρ' ω' S' e (b _ _ q), fun σ' G' H' ρ' ω' S' e q => k.ct σ' G' H' ρ' ω' S' e (t _ _ q)⟩
end

/-! ### loops -/
/-- what a for walks: the items -/
inductive Src where
  | seq (ds : List D)
  | rng (lo : Int) (n : Nat)
def Src.len : Src → Nat
  | .seq ds => ds.length
  | .rng _ n => n
def Src.at (s : Src) (i : Nat) : Option D := match s with
  | .seq ds => ds[i]?
  | .rng lo n => if i < n then some (.int (lo + i)) else none
/-- iter walks the items of s, whatever is done meanwhile -/
def IW (c : Cz) (tg iter : Expr) (ρ : Rho) (ω : List Cel) (PI' : Src → List Cel → Prop) : Prop :=
  ∀ M G0 H0 G H σ, Pre c M G0 H0 → SI c.X.K c.T M G0 H0 G H σ ρ ω → ∀ R' : It → Hp → Prop,
    (∀ (J : It) (G' H' : Hp) (sr : Src) (ω' : List Cel), SI c.X.K c.T M G0 H0 G' H' σ ρ ω' → Ex G G' → PI' sr ω' →
      (∀ (G2 H2 : Hp) (i : Nat), Ex G' G2 → Ex G2 H2 → (sr.len ≤ i → J.stop i H2) ∧ (i < sr.len → J.go i H2)) →
      (∀ (G2 H2 : Hp) (i : Nat) (w : V) (H3 : Hp), Ex G' G2 → Ex G2 H2 → (∀ a o, G2 a = some o → Fz o) → LamX.Tabs c.T H2 → i < sr.len → J.yld i H2 w H3 → ∃ G3 d, Adv c.T [] G2 H2 G3 H3 ∧ sr.at i = some d ∧ R c.X.K G3 d w) → R' J H') →
    ∀ (pins : List (Addr × Obj)) (s : Shared), Inv c.X pins σ H s → wpAny (model c.X.prog c.X.w) c.X.A (eval iter c.X.env) (fun v s1 => wpAny (model c.X.prog c.X.w) c.X.A (pyIter v) (PIE c.X pins σ tg R') c.X.xe s1) c.X.xe s
def IWt (c : Cz) (tg iter : Expr) (σ : L2.St) (H : Hp) (R' : It → Hp → Prop) : Prop :=
  ∀ (pins : List (Addr × Obj)) (s : Shared), Inv c.X pins σ H s → wpAny (model c.X.prog c.X.w) c.X.A (eval iter c.X.env) (fun v s1 => wpAny (model c.X.prog c.X.w) c.X.A (pyIter v) (PIE c.X pins σ tg R') c.X.xe s1) c.X.xe s
theorem IWt.pi {c : Cz} {tg iter : Expr} : PI c.X tg iter (IWt c tg iter) := ⟨fun pins s _ _ _ I h => h pins s I⟩
theorem IWt.of {c : Cz} {tg iter : Expr} {σ : L2.St} {H : Hp} {R' : It → Hp → Prop} {t : TI} (h : PI c.X tg iter t) (q : t σ H R') : IWt c tg iter σ H R' := fun pins s I => h.run pins s σ H R' I q
section
variable {c : Cz} {ρ : Rho} {ω : List Cel} {W : PD} {pos : Pos} {x : Str} {e a b tg iter : Expr} {body : List Stmt} {d : D}
theorem iw_list {PI' : Src → List Cel → Prop} (h : EW c e ρ ω fun d ω1 => ∃ ds, d = .lst ds ∧ PI' (.seq ds) ω1) : IW c tg e ρ ω PI' := by
  intro M G0 H0 G H σ pr S R' k
  refine IWt.of (pi_list WE.pe) ?_
  refine h M G0 H0 G H σ pr S _ fun w G1 H1 d ω1 S1 e1 r1 ⟨ds, ed, q⟩ => ?_
  subst ed
  obtain ⟨p, vs, ew, hs, rv⟩ := r1
  refine ⟨p, ew, ⟨vs, .inl (S1.gh.rd hs)⟩, k _ G1 H1 (.seq ds) ω1 S1 e1 q (fun G2 H2 i g1 g2 => ?_) fun G2 H2 i w H3 g1 g2 fz tb hi y => ?_⟩
  · have hv : SqL c.X.K H2 p vs := .inl (g2.rd (g1.rd hs))
    refine ⟨fun hl => ⟨vs, hv, by rw [← rv.length]; exact hl⟩, fun hl => ⟨vs, vs[i]'(by rw [← rv.length]; exact hl), hv, by simp⟩⟩
  · obtain ⟨eH, y⟩ := y
    subst eH
    have hv : SqL c.X.K H3 p vs := .inl (g2.rd (g1.rd hs))
    obtain ⟨d, e1, r⟩ := (rv.mono g1).get' (y vs hv)
    exact ⟨G2, d, Adv.refl g2 tb fz, e1, r⟩
theorem iw_tup {PI' : Src → List Cel → Prop} (h : EW c e ρ ω fun d ω1 => ∃ ds, d = .tup ds ∧ PI' (.seq ds) ω1) : IW c tg e ρ ω PI' := by
  intro M G0 H0 G H σ pr S R' k
  refine IWt.of (pi_tup WE.pe) ?_
  refine h M G0 H0 G H σ pr S _ fun w G1 H1 d ω1 S1 e1 r1 ⟨ds, ed, q⟩ => ?_
  subst ed
  obtain ⟨p, vs, ew, hs, rv⟩ := r1
  refine ⟨p, ew, ⟨vs, S1.gh.sqT hs⟩, k _ G1 H1 (.seq ds) ω1 S1 e1 q (fun G2 H2 i g1 g2 => ?_) fun G2 H2 i w H3 g1 g2 fz tb hi y => ?_⟩
  · have hv : SqT c.X.K H2 p vs := g2.sqT (g1.sqT hs)
    refine ⟨fun hl => ⟨vs, hv, by rw [← rv.length]; exact hl⟩, fun hl => ⟨vs, vs[i]'(by rw [← rv.length]; exact hl), hv, by simp⟩⟩
  · obtain ⟨eH, y⟩ := y
    subst eH
    have hv : SqT c.X.K H3 p vs := g2.sqT (g1.sqT hs)
    obtain ⟨d, e1, r⟩ := (rv.mono g1).get' (y vs hv)
    exact ⟨G2, d, Adv.refl g2 tb fz, e1, r⟩
theorem iw_range1 {PI' : Src → List Cel → Prop} {p : Pos} (hm : c.X.mg "range" = none) (hg : Gl c.X "range") (h : EW c a ρ ω fun d ω1 => ∃ j : Int, d = .int j ∧ -(2 ^ 62) ≤ j ∧ j < 2 ^ 62 ∧ PI' (.rng 0 j.toNat) ω1) (hs : starEach [a] c.X.env = [(false, eval a c.X.env)] := by rfl) :
    IW c tg (.Call (.Name "range" p) [a] [] pos) ρ ω PI' := by
  intro M G0 H0 G H σ pr S R' k
  refine IWt.of (pi_range1 hg hm (pa_cons WE.pe pa_nil hs) hs) ?_
  refine h M G0 H0 G H σ pr S _ fun w G1 H1 d ω1 S1 e1 r1 ⟨j, ed, h1, h2, q⟩ => ?_
  subst ed
  have ew : w = .int j := r1
  subst ew
  refine ⟨j, rfl, h1, h2, k _ G1 H1 (.rng 0 j.toNat) ω1 S1 e1 q (fun G2 H2 i g1 g2 => ⟨fun hl => hl, fun hl => hl⟩) fun G2 H2 i w H3 g1 g2 fz tb hi y => ?_⟩
  obtain ⟨eH, y⟩ := y
  subst eH y
  exact ⟨G2, .int (0 + i), Adv.refl g2 tb fz, if_pos hi, rfl⟩
theorem iw_range2 {PI' : Src → List Cel → Prop} {p : Pos} (hm : c.X.mg "range" = none) (hg : Gl c.X "range") (h : EW c a ρ ω fun d ω1 => EW c b ρ ω1 fun d' ω2 => ∃ i j : Int, d = .int i ∧ d' = .int j ∧ (-(2 ^ 62) ≤ i ∧ i < 2 ^ 62 ∧ -(2 ^ 62) ≤ j ∧ j < 2 ^ 62) ∧ PI' (.rng i (j - i).toNat) ω2)
    (hs : starEach [a, b] c.X.env = [(false, eval a c.X.env), (false, eval b c.X.env)] := by rfl) (hs2 : starEach [b] c.X.env = [(false, eval b c.X.env)] := by rfl) :
    IW c tg (.Call (.Name "range" p) [a, b] [] pos) ρ ω PI' := by
  intro M G0 H0 G H σ pr S R' k
  have z1 : starEach [a, b] c.X.env = (false, eval a c.X.env) :: starEach [b] c.X.env := by rw [hs, hs2]
  refine IWt.of (pi_range2 hg hm (pa_cons WE.pe (pa_cons WE.pe pa_nil hs2) z1) hs hs2) ?_
  refine h M G0 H0 G H σ pr S _ fun w G1 H1 d ω1 S1 e1 r1 h1 => ?_
  refine h1 M G0 H0 G1 H1 σ pr S1 _ fun w' G2 H2 d' ω2 S2 e2 r2 ⟨i, j, ed, ed', hb, q⟩ => ?_
  subst ed ed'
  have ew : w = .int i := r1
  have ew' : w' = .int j := r2
  subst ew ew'
  refine ⟨i, j, rfl, hb, k _ G2 H2 (.rng i (j - i).toNat) ω2 S2 (e1.trans e2) q (fun G3 H3 n g1 g2 => ⟨fun hl => hl, fun hl => hl⟩) fun G3 H3 n w H4 g1 g2 fz tb hi y => ?_⟩
  obtain ⟨eH, y⟩ := y
  subst eH y
  exact ⟨G3, .int (i + n), Adv.refl g2 tb fz, if_pos hi, rfl⟩
/-- for tg in iter: body -/
theorem s1_for (h : IW c tg iter ρ ω fun sr ω1 => ∃ Inv' : Nat → SK, Inv' 0 ρ ω1 ∧
      (∀ i d ρ' ω', sr.at i = some d → Inv' i ρ' ω' → GW c tg d ρ' ω' fun ρ2 ω2 => SW c body ρ2 ω2 { nx := Inv' (i + 1), rt := W.rt, bk := W.nx, ct := Inv' (i + 1) }) ∧
      (∀ ρ' ω', Inv' sr.len ρ' ω' → W.nx ρ' ω'))
    (hs : ∀ x, foldedSetIterable iter c.X.env x = pure x := by intro _; rfl) : SW1 c (.For tg iter body [] pos) ρ ω W := by
  intro M G0 H0 G H σ pr S De k
  have hgt : ∀ (t : V → L2.St → Hp → (L2.St → Hp → Prop) → Prop), t = (fun w σ H Q => ∀ (pins : List (Addr × Obj)) (s : Shared) (u : Value), Inv c.X pins σ H s → RelV w u → wpAny (model c.X.prog c.X.w) c.X.A (assign tg c.X.env u) (fun _ s' => ∃ σ' H', Inv c.X pins σ' H' s' ∧ Q σ' H') c.X.xe s) → PG c.X tg t :=
    fun t et => ⟨fun pins s σ H v u Q I r h => by subst et; exact h pins s u I r⟩
  refine WS1.of (ps_for pr.po pr.calm IWt.pi (hgt _ rfl) WS.pss hs) ?_
  refine h M G0 H0 G H σ pr S _ fun J G1 H1 sr ω1 S1 e1 ⟨Iv, i0, st, en⟩ stop yld => ?_
  refine ⟨fun i m σ' H' => m = sr.len - i ∧ i ≤ sr.len ∧ ∃ G' ρ' ω', SI c.X.K c.T M G0 H0 G' H' σ' ρ' ω' ∧ Ex G1 G' ∧ Iv i ρ' ω', ⟨_, rfl, Nat.zero_le _, G1, ρ, ω1, S1, Ex.refl _, i0⟩, ?_⟩
  rintro i m σ' H' ⟨rfl, hi, G', ρ', ω', S', e', iv⟩
  by_cases hlt : i < sr.len
  · refine .inr ⟨(stop G' H' i e' S'.gh).2 hlt, fun σ2 H2 => ∃ G2 ρ2 ω2, SI c.X.K c.T M G0 H0 G2 H2 σ2 ρ2 ω2 ∧ Ex G1 G2 ∧ Iv (i + 1) ρ2 ω2, fun σ2 H2 ⟨G2, ρ2, ω2, S2, e2, iv2⟩ => ⟨sr.len - (i + 1), by omega, rfl, by omega, G2, ρ2, ω2, S2, e2, iv2⟩, fun w H3 y => ?_⟩
    obtain ⟨G3, d, A, ed, r⟩ := yld G' H' i w H3 e' S'.gh S'.adv.fz S'.adv.tab hlt y
    have S3 := S'.step A
    refine fun pins s u I ru => st i d ρ' ω' ed iv M G0 H0 G3 H3 σ' w pr S3 r _ (fun σ4 G4 H4 ρ4 ω4 S4 e4 q => ?_) pins s u I ru
    have e14 : Ex G1 G4 := e'.trans (A.gg.trans e4)
    refine q M G0 H0 G4 H4 σ4 pr S4 _ ⟨fun σ5 G5 H5 ρ5 ω5 S5 e5 q5 => ⟨G5, ρ5, ω5, S5, e14.trans e5, q5⟩, fun w5 σ5 G5 H5 ρ5 d5 ω5 S5 e5 r5 q5 => k.rt w5 σ5 G5 H5 ρ5 d5 ω5 S5 (e1.trans (e14.trans e5)) r5 q5,
      fun σ5 G5 H5 ρ5 ω5 S5 e5 q5 => k.nx σ5 G5 H5 ρ5 ω5 S5 (e1.trans (e14.trans e5)) q5, fun σ5 G5 H5 ρ5 ω5 S5 e5 q5 => ⟨G5, ρ5, ω5, S5, e14.trans e5, q5⟩⟩
  · have ei : i = sr.len := by omega
    subst ei
    exact .inl ⟨(stop G' H' _ e' S'.gh).1 (Nat.le_refl _), k.nx σ' G' H' ρ' ω' S' (e1.trans e') (en ρ' ω' iv)⟩
/-- while t: body; Inv' by a measure -/
theorem s1_while {t : Expr} (Iv : Nat → SK) (m0 : Nat) (i0 : Iv m0 ρ ω)
    (st : ∀ m ρ' ω', Iv m ρ' ω' → TW c t ρ' ω' fun z ω1 => if z = true then SW c body ρ' ω1 { nx := fun ρ2 ω2 => ∃ m', m' < m ∧ Iv m' ρ2 ω2, rt := W.rt, bk := W.nx, ct := fun ρ2 ω2 => ∃ m', m' < m ∧ Iv m' ρ2 ω2 } else W.nx ρ' ω1) : SW1 c (.While t body [] pos) ρ ω W := by
  intro M G0 H0 G H σ pr S De k
  refine WS1.of (ps_while pr.po WT.pt WS.pss) ?_
  refine ⟨fun m σ' H' => ∃ G' ρ' ω', SI c.X.K c.T M G0 H0 G' H' σ' ρ' ω' ∧ Ex G G' ∧ Iv m ρ' ω', ⟨m0, G, ρ, ω, S, Ex.refl _, i0⟩, ?_⟩
  rintro m σ' H' ⟨G', ρ', ω', S', e', iv⟩
  refine st m ρ' ω' iv M G0 H0 G' H' σ' pr S' _ fun z G1 H1 ω1 S1 e1 q => ?_
  cases z with
  | true =>
    rw [if_pos rfl] at q ⊢
    refine ⟨fun σ2 H2 => ∃ m', m' < m ∧ ∃ G2 ρ2 ω2, SI c.X.K c.T M G0 H0 G2 H2 σ2 ρ2 ω2 ∧ Ex G G2 ∧ Iv m' ρ2 ω2, fun σ2 H2 ⟨m', hm, x⟩ => ⟨m', hm, x⟩, ?_⟩
    refine q M G0 H0 G1 H1 σ' pr S1 _ ⟨fun σ5 G5 H5 ρ5 ω5 S5 e5 ⟨m', hm, q5⟩ => ⟨m', hm, G5, ρ5, ω5, S5, e'.trans (e1.trans e5), q5⟩, fun w5 σ5 G5 H5 ρ5 d5 ω5 S5 e5 r5 q5 => k.rt w5 σ5 G5 H5 ρ5 d5 ω5 S5 (e'.trans (e1.trans e5)) r5 q5,
      fun σ5 G5 H5 ρ5 ω5 S5 e5 q5 => k.nx σ5 G5 H5 ρ5 ω5 S5 (e'.trans (e1.trans e5)) q5, fun σ5 G5 H5 ρ5 ω5 S5 e5 ⟨m', hm, q5⟩ => ⟨m', hm, G5, ρ5, ω5, S5, e'.trans (e1.trans e5), q5⟩⟩
  | false =>
    rw [if_neg Bool.false_ne_true] at q ⊢
    exact k.nx σ' G1 H1 ρ' ω1 S1 (e'.trans e1) q
end
end DL

namespace DL
open PySem PySem.Spec PyProof.Rows L2

/-! ### the promise of a def -/
abbrev QF := D → List OD → List (Addr × OD) → Prop
abbrev EF := Value → List (Str × D) → List OD → Prop
/-- arguments, what is handed in to be written; what follows a return (value, what was handed in, new cells), a raise -/
abbrev FSpec := List D → List (Addr × OD) → QF → EF → Prop
def Cells (K : PySem.W.Frag) (G H : Hp) (os : List (Addr × OD)) : Prop := ∀ p ∈ os, G p.1 = none ∧ OwnAt K G H p.1 p.2
def toSp (K : PySem.W.Frag) (T : List (Addr × Str)) (F : FSpec) : Sp := fun vs H Q E => ∃ (G : Hp) (ds : List D) (os : List (Addr × OD)) (QQ : QF) (EE : EF),
  Ex G H ∧ (∀ a o, G a = some o → Fz o) ∧ LamX.Tabs T H ∧ RS K G ds vs ∧ Cells K G H os ∧ (os.map (·.1)).Nodup ∧ F ds os QQ EE ∧
  (∀ w G' H' d os' nw, Adv T (os.map (·.1)) G H G' H' → R K G' d w → os'.map (·.1) = os.map (·.1) → Cells K G' H' (os' ++ nw) → (∀ p ∈ nw, NT (H p.1)) → ((os' ++ nw).map (·.1)).Nodup → QQ d (os'.map (·.2)) nw → Q w H') ∧
  (∀ cls dd G' H' fs os', Adv T (os.map (·.1)) G H G' H' → XD K G' H' dd fs → os'.map (·.1) = os.map (·.1) → Cells K G' H' os' → (os'.map (·.1)).Nodup → EE cls fs (os'.map (·.2)) → E cls dd H')
/-- a def that writes nothing that it gets, and hands back data -/
abbrev PSpec := List D → (D → Prop) → (Value → List (Str × D) → Prop) → Prop
def pureF (F : PSpec) : FSpec := fun ds os QQ EE => os = [] ∧ F ds (fun d => QQ d [] []) (fun cls fs => EE cls fs [])
/-- one that hands back a new object -/
abbrev NSpec := List D → (D → List (Addr × OD) → Prop) → (Value → List (Str × D) → Prop) → Prop
def newF (F : NSpec) : FSpec := fun ds os QQ EE => os = [] ∧ F ds (fun d nw => QQ d [] nw) (fun cls fs => EE cls fs [])
/-- one that writes one object that it gets -/
abbrev MSpec := List D → Addr → OD → (D → OD → Prop) → (Value → List (Str × D) → OD → Prop) → Prop
def mutF (F : MSpec) : FSpec := fun ds os QQ EE => ∃ a o, os = [(a, o)] ∧ F ds a o (fun d o' => QQ d [o'] []) (fun cls fs o' => EE cls fs [o'])

def outs (ω : List Cel) : List OD := (ω.filter Cel.m).map Cel.o
def news (ω : List Cel) : List (Addr × OD) := (ω.filter fun c => !c.m).map fun c => (c.a, c.o)
def outsP (ω : List Cel) : List (Addr × OD) := (ω.filter Cel.m).map fun c => (c.a, c.o)
theorem outsP_snd (ω : List Cel) : (outsP ω).map (·.2) = outs ω := by unfold outsP outs; rw [List.map_map]; rfl
def cels (m : Bool) (os : List (Addr × OD)) : List Cel := os.map fun p => ⟨p.1, m, p.2⟩
theorem cels_a (m : Bool) (os : List (Addr × OD)) : (cels m os).map Cel.a = os.map (·.1) := by unfold cels; rw [List.map_map]; rfl
theorem cels_m (os : List (Addr × OD)) : (cels true os).filter Cel.m = cels true os := by
  unfold cels
  rw [List.filter_map]
  congr 1
  exact List.filter_eq_self.mpr fun _ _ => rfl
theorem RS_start {K : PySem.W.Frag} {G : Hp} {N : List Str} {ds : List D} {vs : List V} (r : RS K G ds vs) : ∀ (i : Nat) (d : D), (ds.map some ++ List.replicate (N.length - ds.length) none)[i]? = some (some d) → ∃ w, (L2.start N vs)[i]? = some (some w) ∧ R K G d w := fun i d h => by
  by_cases hi : i < ds.length
  · rw [List.getElem?_append_left (by simpa using hi), List.getElem?_map] at h
    cases e : ds[i]? with
    | none => rw [e] at h; cases h
    | some d' =>
      rw [e] at h
      cases h
      obtain ⟨w, q1, q2⟩ := r.get e
      refine ⟨w, ?_, q2⟩
      unfold L2.start
      rw [List.getElem?_append_left (by rw [List.length_map, ← r.length]; exact hi), List.getElem?_map, q1]
      rfl
  · rw [List.getElem?_append_right (by simpa using hi), List.getElem?_replicate] at h
    split at h
    · cases h
    · cases h
def rho0 (n : Nat) (ds : List D) : Rho := ds.map some ++ List.replicate (n - ds.length) none

section
variable {Pg : Program} {w : World} {K : PySem.W.Frag} {mg : Str → Option Value} {base : Heap} {T : List (Addr × Str)}
/-- the context of a def's body -/
abbrev cxB (Pg : Program) (w : World) (K : PySem.W.Frag) (mg : Str → Option Value) (base : Heap) (N : List Str) (qual : Str) (sc : Scope) (f : Addr) (cdv : Value) (A : Around) (outer : List Env) (s : Shared) (H : Hp) (E : XK) : Cx := cxOf (L2.CX Pg w) Pg w K mg base N qual sc f cdv A outer s H E
/-- a def whose code object is told -/
structure FunC (K : PySem.W.Frag) (x qual : Str) (st : Stmt) (f : Addr) (fd : FuncData) (Pc : Value → Prop) : Prop where
  ex : ∃ (oc : Value) (od : Option Addr) (kV doc pm : Value) (an : Option Addr) (cdv ct : Value) (osl : Array (Option Value)),
    fd = PySem.W.fnOf x qual (defArgs st) (defBody st) (defScope st) .none kV doc pm an cdv ct ∧ K.lookup f = some ⟨oc, od, .func fd, osl⟩ ∧ PySem.W.codeIn K cdv qual = true ∧ Pc cdv
theorem FunC.of {x qual : Str} {st : Stmt} {f : Addr} {fd : FuncData} (F : Fun K x qual st f fd) : FunC K x qual st f fd fun _ => True := by
  obtain ⟨oc, od, kV, doc, pm, an, cdv, ct, osl, h1, h2, h3⟩ := F.ex
  exact ⟨oc, od, kV, doc, pm, an, cdv, ct, osl, h1, h2, h3, True.intro⟩
/-- THE RULE for a def -/
theorem fn_anyC {x qual : Str} {st : Stmt} {f : Addr} {fd : FuncData} {N ps : List Str} {k : Nat} {F : FSpec} {Pc : Value → Prop} (Fn : FunC K x qual st f fd Pc) (S : FnScope N ps (defScope st)) (hps : ps.length ≤ N.length) (len : ∀ ds os QQ EE, F ds os QQ EE → ds.length = ps.length)
    (hbody : ∀ (cdv : Value) (hpc : Pc cdv) (A : Around) (outer : List Env) (s : Shared) (H : Hp) (E : XK) (ds : List D) (os : List (Addr × OD)) (QQ : QF) (EE : EF), F ds os QQ EE →
      SW ⟨cxB Pg w K mg base N qual (defScope st) f cdv A outer s H E, T, k, fun cls fs ω => EE cls fs (outs ω)⟩ (defBody st) (rho0 N.length ds) (cels true os) { nx := fun _ ω => ∃ nw, nw.Sublist (news ω) ∧ QQ .non (outs ω) nw, rt := fun d ω => ∃ nw, nw.Sublist (news ω) ∧ QQ d (outs ω) nw }) :
    FnOk Pg w K mg base (L2.CX Pg w) (k + 1) f fd ps (toSp K T F) := by
  obtain ⟨oc, od, kV, doc, pm, an, cdv, ct, osl, rfl, lk, hcd, hpc⟩ := Fn.ex
  refine fn_of lk hcd S (fun vs H Q E h => ?_) fun A outer s H vs Q E hr h => ?_
  · obtain ⟨G, ds, os, QQ, EE, _, _, _, r, _, _, hF, _⟩ := h
    rw [← r.length]
    exact len _ _ _ _ hF
  · obtain ⟨G, ds, os, QQ, EE, gh, fz, tab, r, cs, nd, hF, kq, ke⟩ := h
    have hl := len _ _ _ _ hF
    have hb := hbody cdv hpc A outer s H E ds os QQ EE hF
    refine ⟨_, WS.pss, ?_⟩
    have S0 : SI K T (os.map (·.1)) G H G H (L2.start N vs) (rho0 N.length ds) (cels true os) := by
      refine ⟨Adv.refl gh tab fz, ?_, RS_start r, fun c hc => ?_, by rw [cels_a]; exact nd, by rw [cels_m, cels_a]⟩
      · unfold rho0 L2.start
        rw [List.length_append, List.length_append, List.length_map, List.length_map, List.length_replicate, List.length_replicate, r.length]
      · obtain ⟨p, hp, rfl⟩ := List.mem_map.mp hc
        obtain ⟨g, o⟩ := cs p hp
        exact ⟨g, (fun z => Bool.noConfusion z), o⟩
    have fin : ∀ {σ' : L2.St} {G' H' : Hp} {ρ' : Rho} {ω' : List Cel}, SI K T (os.map (·.1)) G H G' H' σ' ρ' ω' →
        (outsP ω').map (·.1) = os.map (·.1) ∧ Cells K G' H' (outsP ω') ∧ ((outsP ω').map (·.1)).Nodup ∧ ∀ nw : List (Addr × OD), nw.Sublist (news ω') → Cells K G' H' (outsP ω' ++ nw) ∧ (∀ p ∈ nw, NT (H p.1)) ∧ ((outsP ω' ++ nw).map (·.1)).Nodup := fun {σ' G' H' ρ' ω'} S' => by
      have e1 : (outsP ω').map (·.1) = os.map (·.1) := by rw [← S'.mm]; unfold outsP; rw [List.map_map]; rfl
      have c1 : Cells K G' H' (outsP ω') := fun p hp => by
        obtain ⟨c, hc, rfl⟩ := List.mem_map.mp hp
        obtain ⟨a, _, b⟩ := S'.own c (List.mem_filter.mp hc).1
        exact ⟨a, b⟩
      refine ⟨e1, c1, by rw [e1]; exact nd, fun nw hs => ⟨fun p hp => ?_, fun p hp => ?_, ?_⟩⟩
      · rcases List.mem_append.mp hp with hp | hp
        · exact c1 p hp
        · obtain ⟨c, hc, rfl⟩ := List.mem_map.mp (hs.subset hp)
          obtain ⟨a, _, b⟩ := S'.own c (List.mem_filter.mp hc).1
          exact ⟨a, b⟩
      · obtain ⟨c, hc, rfl⟩ := List.mem_map.mp (hs.subset hp)
        obtain ⟨h1, h2⟩ := List.mem_filter.mp hc
        exact (S'.own c h1).2.1 (by simpa using h2)
      · rw [List.map_append]
        have hn : ((news ω').map (·.1)).Nodup := by
          unfold news
          rw [List.map_map]
          exact S'.nd.sublist (List.filter_sublist.map _)
        refine List.nodup_append.mpr ⟨by rw [e1]; exact nd, hn.sublist (hs.map _), fun a ha b hb e => ?_⟩
        obtain ⟨p, hp, rfl⟩ := List.mem_map.mp ha
        obtain ⟨c, hc, rfl⟩ := List.mem_map.mp hp
        obtain ⟨q, hq, rfl⟩ := List.mem_map.mp hb
        obtain ⟨c', hc', rfl⟩ := List.mem_map.mp (hs.subset hq)
        obtain ⟨h1, h2⟩ := List.mem_filter.mp hc
        obtain ⟨h3, h4⟩ := List.mem_filter.mp hc'
        obtain ⟨i, hi⟩ := List.mem_iff_getElem?.mp h1
        obtain ⟨j, hj⟩ := List.mem_iff_getElem?.mp h3
        have ij := nd_cel S'.nd hi hj e
        subst ij
        rw [hi] at hj
        cases hj
        simp [h2] at h4
    have pr : Pre ⟨cxB Pg w K mg base N qual (defScope st) f cdv A outer s H E, T, k, fun cls fs ω => EE cls fs (outs ω)⟩ (os.map (·.1)) G H := by
      refine ⟨(takes_of rfl rfl rfl rfl).imp fun cls dd σ' H' hw => ?_, passes_of (K := fun e s'' => L2.CX Pg w outer H s E e s'') (E₁ := fun e' s'' => L2.CX Pg w outer H s E e' s'') rfl, rfl, S.nd, hr⟩
      obtain ⟨G', ρ', ω', fs, S', xd, he⟩ := hw
      obtain ⟨f1, f2, f3, _⟩ := fin S'
      exact ke cls dd G' H' fs (outsP ω') S'.adv xd f1 f2 f3 (by rw [outsP_snd]; exact he)
    refine hb _ G H G H (L2.start N vs) pr S0 _ ⟨fun σ' G' H' ρ' ω' S' _ ⟨nw, hs, q⟩ => ?_, fun w' σ' G' H' ρ' d ω' S' _ r' ⟨nw, hs, q⟩ => ?_, fun _ _ _ _ _ _ _ q => q.elim, fun _ _ _ _ _ _ _ q => q.elim⟩
    · obtain ⟨f1, f2, f3, f4⟩ := fin S'
      obtain ⟨g1, g2, g3⟩ := f4 nw hs
      exact kq .non G' H' .non (outsP ω') nw S'.adv rfl f1 g1 g2 g3 (by rw [outsP_snd]; exact q)
    · obtain ⟨f1, f2, f3, f4⟩ := fin S'
      obtain ⟨g1, g2, g3⟩ := f4 nw hs
      exact kq w' G' H' d (outsP ω') nw S'.adv r' f1 g1 g2 g3 (by rw [outsP_snd]; exact q)
theorem fn_any {x qual : Str} {st : Stmt} {f : Addr} {fd : FuncData} {N ps : List Str} {k : Nat} {F : FSpec} (Fn : Fun K x qual st f fd) (S : FnScope N ps (defScope st)) (hps : ps.length ≤ N.length) (len : ∀ ds os QQ EE, F ds os QQ EE → ds.length = ps.length)
    (hbody : ∀ (cdv : Value) (A : Around) (outer : List Env) (s : Shared) (H : Hp) (E : XK) (ds : List D) (os : List (Addr × OD)) (QQ : QF) (EE : EF), F ds os QQ EE →
      SW ⟨cxB Pg w K mg base N qual (defScope st) f cdv A outer s H E, T, k, fun cls fs ω => EE cls fs (outs ω)⟩ (defBody st) (rho0 N.length ds) (cels true os) { nx := fun _ ω => ∃ nw, nw.Sublist (news ω) ∧ QQ .non (outs ω) nw, rt := fun d ω => ∃ nw, nw.Sublist (news ω) ∧ QQ d (outs ω) nw }) :
    FnOk Pg w K mg base (L2.CX Pg w) (k + 1) f fd ps (toSp K T F) :=
  fn_anyC (FunC.of Fn) S hps len fun cdv _ => hbody cdv
theorem fn_pureC {x qual : Str} {st : Stmt} {f : Addr} {fd : FuncData} {N ps : List Str} {k : Nat} {F : PSpec} {Pc : Value → Prop} (Fn : FunC K x qual st f fd Pc) (S : FnScope N ps (defScope st)) (hps : ps.length ≤ N.length) (len : ∀ ds QQ EE, F ds QQ EE → ds.length = ps.length)
    (hbody : ∀ (cdv : Value) (hpc : Pc cdv) (A : Around) (outer : List Env) (s : Shared) (H : Hp) (E : XK) (ds : List D) (QQ : D → Prop) (EE : Value → List (Str × D) → Prop), F ds QQ EE →
      SW ⟨cxB Pg w K mg base N qual (defScope st) f cdv A outer s H E, T, k, fun cls fs ω => EE cls fs⟩ (defBody st) (rho0 N.length ds) [] { nx := fun _ _ => QQ .non, rt := fun d _ => QQ d }) :
    FnOk Pg w K mg base (L2.CX Pg w) (k + 1) f fd ps (toSp K T (pureF F)) := by
  refine fn_anyC Fn S hps (fun ds os QQ EE h => len _ _ _ h.2) fun cdv hpc A outer s H E ds os QQ EE h => ?_
  obtain ⟨rfl, h⟩ := h
  have hb := hbody cdv hpc A outer s H E ds _ _ h
  intro M G0 H0 G1 H1 σ pr S1 De kn
  have mM : M = [] := by rw [← S1.mm]; rfl
  subst mM
  have o0 : ∀ {σ' : L2.St} {G' H' : Hp} {ρ' : Rho} {ω' : List Cel}, SI K T [] G0 H0 G' H' σ' ρ' ω' → outs ω' = [] := fun S' => by
    have z := List.map_eq_nil_iff.mp S'.mm
    unfold outs; rw [z]; rfl
  refine hb [] G0 H0 G1 H1 σ ⟨pr.tk.imp fun cls dd σ' H' ⟨G', ρ', ω', fs, S', xd, he⟩ => ⟨G', ρ', ω', fs, S', xd, ?_⟩, pr.po, pr.calm, pr.nd, pr.room⟩ S1 De ⟨fun σ' G' H' ρ' ω' S' e q => kn.nx σ' G' H' ρ' ω' S' e ⟨[], List.nil_sublist _, ?_⟩, fun w σ' G' H' ρ' d ω' S' e r q => kn.rt w σ' G' H' ρ' d ω' S' e r ⟨[], List.nil_sublist _, ?_⟩, fun σ' G' H' ρ' ω' S' e q => q.elim, fun σ' G' H' ρ' ω' S' e q => q.elim⟩
  · show EE cls fs (outs ω')
    rw [o0 S']; exact he
  · rw [o0 S']; exact q
  · rw [o0 S']; exact q
theorem fn_pure {x qual : Str} {st : Stmt} {f : Addr} {fd : FuncData} {N ps : List Str} {k : Nat} {F : PSpec} (Fn : Fun K x qual st f fd) (S : FnScope N ps (defScope st)) (hps : ps.length ≤ N.length) (len : ∀ ds QQ EE, F ds QQ EE → ds.length = ps.length)
    (hbody : ∀ (cdv : Value) (A : Around) (outer : List Env) (s : Shared) (H : Hp) (E : XK) (ds : List D) (QQ : D → Prop) (EE : Value → List (Str × D) → Prop), F ds QQ EE →
      SW ⟨cxB Pg w K mg base N qual (defScope st) f cdv A outer s H E, T, k, fun cls fs ω => EE cls fs⟩ (defBody st) (rho0 N.length ds) [] { nx := fun _ _ => QQ .non, rt := fun d _ => QQ d }) :
    FnOk Pg w K mg base (L2.CX Pg w) (k + 1) f fd ps (toSp K T (pureF F)) :=
  fn_pureC (FunC.of Fn) S hps len fun cdv _ => hbody cdv
end

/-! ### calls of defs -/
section
variable {c : Cz} {ρ : Rho} {ω : List Cel} {P : PK} {pos p : Pos} {x : Str} {e : Expr} {es : List Expr} {f : Addr} {fd : FuncData} {ps : List Str} {k : Nat}
/-- what a call of f asks -/
structure Callee (c : Cz) (x : Str) (f : Addr) (fd : FuncData) (ps : List Str) (k : Nat) (F : FSpec) : Prop where
  fn : FnOk c.X.prog c.X.w c.X.K c.X.mg c.X.base (L2.CX c.X.prog c.X.w) k f fd ps (toSp c.X.K c.T F)
  mg : c.X.mg x = some (.ref f)
  kp : PySem.W.keepIn c.X.K (.ref f) = true
  bd : Binds c.X.K fd ps []
  le : k ≤ c.k
/-- a call's arguments are there -/
theorem call_core {F : FSpec} (C : Callee c x f fd ps k F) {M : List Addr} {G0 H0 G H : Hp} {σ : L2.St} (pr : Pre c M G0 H0) (S : SI c.X.K c.T M G0 H0 G H σ ρ ω) {ds : List D} {ws : List V} (r : RS c.X.K G ds ws) {os : List (Addr × OD)} {QQ : QF} {EE : EF}
    (cs : Cells c.X.K G H os) (nd : (os.map (·.1)).Nodup) (hF : F ds os QQ EE) {Q : VK}
    (kq : ∀ w G' H' d os' nw, Adv c.T (os.map (·.1)) G H G' H' → R c.X.K G' d w → os'.map (·.1) = os.map (·.1) → Cells c.X.K G' H' (os' ++ nw) → (∀ p ∈ nw, NT (H p.1)) → ((os' ++ nw).map (·.1)).Nodup → QQ d (os'.map (·.2)) nw → Q w H')
    (ke : ∀ cls dd G' H' fs os', Adv c.T (os.map (·.1)) G H G' H' → XD c.X.K G' H' dd fs → os'.map (·.1) = os.map (·.1) → Cells c.X.K G' H' os' → (os'.map (·.1)).Nodup → EE cls fs (os'.map (·.2)) → Wof c M G0 H0 cls dd σ H')
    {pins : List (Addr × Obj)} {s : Shared} {us : List Value} (I : Inv c.X pins σ H s) (ru : Vals ws us) : wpAny (model c.X.prog c.X.w) c.X.A (call (.ref f) us) (EP c.X pins σ Q) c.X.xe s := by
  refine run_fnSD (E := fun σ => L2.WE (Wof c M G0 H0) σ) (dvs := []) C.fn (pr.room.mono C.le) C.bd .nil (passAt pr.tk σ) I ru ?_
  rw [List.append_nil]
  exact ⟨G, ds, os, QQ, EE, S.gh, S.adv.fz, S.adv.tab, r, cs, nd, hF, kq, ke⟩
theorem ew_core {F : FSpec} (C : Callee c x f fd ps k F) (hg : Gl c.X x) (hdb : (x == ("__debug__" : Str)) = false) (he : starEach (e :: es) c.X.env = (false, eval e c.X.env) :: starEach es c.X.env) (hpl : (backTo pos (starEach es c.X.env)).any (·.1) = false)
    {PA' : List D → List Cel → Prop} (h : EA c (e :: es) ρ ω PA')
    (go : ∀ M G0 H0 G H σ ds ws ω', Pre c M G0 H0 → SI c.X.K c.T M G0 H0 G H σ ρ ω' → RS c.X.K G ds ws → PA' ds ω' → ∀ Q : VK, Kn c M G0 H0 G σ ρ P Q → ∀ (pins : List (Addr × Obj)) (s : Shared) (us : List Value), Inv c.X pins σ H s → Vals ws us → wpAny (model c.X.prog c.X.w) c.X.A (call (.ref f) us) (EP c.X pins σ Q) c.X.xe s) :
    EW c (.Call (.Name x p) (e :: es) [] pos) ρ ω P := by
  intro M G0 H0 G H σ pr S Q kn pins s I
  refine wpAny_Call_Name_kw (ld_glob I hg C.mg ?_ hdb)
  refine PySem.W.callWith_K (h₀ := c.X.base) I.ok.mod.kin C.kp (thn (h M G0 H0 G H σ pr S (fun ws H1 => ∀ (pins : List (Addr × Obj)) (s : Shared) (us : List Value), Inv c.X pins σ H1 s → Vals ws us → wpAny (model c.X.prog c.X.w) c.X.A (call (.ref f) us) (EP c.X pins σ Q) c.X.xe s)
    (fun ws G1 H1 ds ω1 S1 e1 r1 q => go M G0 H0 G1 H1 σ ds ws ω1 pr S1 r1 q Q fun w G' H' d ω' S' e' => kn w G' H' d ω' S' (e1.trans e')) pos pins s I) fun us s1 ⟨vs, H1, I1, rr, q⟩ => ⟨I1.kIn, q pins s1 us I1 rr⟩) he hpl
theorem SI.exc {K : PySem.W.Frag} {T : List (Addr × Str)} {M : List Addr} {G0 H0 G H G' H' : Hp} {σ : L2.St} (S : SI K T M G0 H0 G H σ ρ ω) (A : Adv T [] G H G' H') : SI K T M G0 H0 G' H' σ ρ ω := S.step A
/-- f(..), f pure -/
theorem ew_call {F : PSpec} (C : Callee c x f fd ps k (pureF F)) (hg : Gl c.X x) (h : EA c (e :: es) ρ ω fun ds ω1 => F ds (fun d => P d ω1) (fun cls fs => c.ex cls fs ω1)) (hdb : (x == ("__debug__" : Str)) = false := by decide)
    (he : starEach (e :: es) c.X.env = (false, eval e c.X.env) :: starEach es c.X.env := by rfl) (hpl : (backTo pos (starEach es c.X.env)).any (·.1) = false := by rfl) : EW c (.Call (.Name x p) (e :: es) [] pos) ρ ω P := by
  refine ew_core C hg hdb he hpl h fun M G0 H0 G H σ ds ws ω1 pr S r q Q kn pins s us I ru => ?_
  refine call_core C pr S r (os := []) (QQ := fun d os' nw => os' = [] ∧ nw = [] ∧ P d ω1) (EE := fun cls fs os' => c.ex cls fs ω1) (fun _ z => nomatch z) List.nodup_nil ⟨rfl, ?_⟩ (fun w G' H' d os' nw A r' _ _ _ _ ⟨_, _, q⟩ => kn w G' H' d ω1 (S.step A) A.gg r' q)
    (fun cls dd G' H' fs os' A xd _ _ _ q => ⟨G', ρ, ω1, fs, S.step A, xd, q⟩) I ru
  exact (by simpa using q)
/-- the new cells of a callee -/
theorem SI.news {K : PySem.W.Frag} {T : List (Addr × Str)} {M : List Addr} {G0 H0 G H G' H' : Hp} {σ : L2.St} (S : SI K T M G0 H0 G H σ ρ ω) (A : Adv T [] G H G' H') {nw : List (Addr × OD)} (cn : Cells K G' H' nw) (hn : ∀ p ∈ nw, NT (H p.1)) (nd : (nw.map (·.1)).Nodup) :
    SI K T M G0 H0 G' H' σ ρ (ω ++ cels false nw) := by
  have S1 := S.step A
  refine ⟨S1.adv, S1.len, S1.env, fun c hc => ?_, ?_, ?_⟩
  · rcases List.mem_append.mp hc with h | h
    · exact S1.own c h
    · obtain ⟨p, hp, rfl⟩ := List.mem_map.mp h
      obtain ⟨g, o⟩ := cn p hp
      refine ⟨g, fun _ => ?_, o⟩
      show NT (H0 p.1)
      cases q : H0 p.1 with
      | none => exact .inl rfl
      | some x =>
        by_cases t : ∀ ps, x ≠ .tbl ps
        · by_cases m : p.1 ∈ M
          · exact absurd (hn p hp) (S.mOwn m)
          · have y := S.adv.keep p.1 x q m t
            rcases hn p hp with z | ⟨ps, z⟩
            · rw [y] at z; cases z
            · rw [y] at z; exact absurd (Option.some.inj z) (t ps)
        · have ⟨ps, z⟩ := Classical.not_forall.mp t
          exact .inr ⟨ps, by rw [Classical.not_not.mp z]⟩
  · rw [List.map_append, cels_a]
    refine List.nodup_append.mpr ⟨S.nd, nd, fun a ha b hb e => ?_⟩
    obtain ⟨c, hc, rfl⟩ := List.mem_map.mp ha
    obtain ⟨p, hp, rfl⟩ := List.mem_map.mp hb
    exact (S.own c hc).2.2.nt (by rw [e]; exact hn p hp)
  · rw [List.filter_append, List.map_append, S.mm]
    have z : (cels false nw).filter Cel.m = [] := by
      unfold cels
      rw [List.filter_map]
      rw [List.map_eq_nil_iff]
      exact List.filter_eq_nil_iff.mpr fun _ _ h => by cases h
    rw [z]
    simp
/-- f(..), a new object comes back -/
theorem ew_callN {F : NSpec} (C : Callee c x f fd ps k (newF F)) (hg : Gl c.X x) (h : EA c (e :: es) ρ ω fun ds ω1 => F ds (fun d nw => P d (ω1 ++ cels false nw)) (fun cls fs => c.ex cls fs ω1)) (hdb : (x == ("__debug__" : Str)) = false := by decide)
    (he : starEach (e :: es) c.X.env = (false, eval e c.X.env) :: starEach es c.X.env := by rfl) (hpl : (backTo pos (starEach es c.X.env)).any (·.1) = false := by rfl) : EW c (.Call (.Name x p) (e :: es) [] pos) ρ ω P := by
  refine ew_core C hg hdb he hpl h fun M G0 H0 G H σ ds ws ω1 pr S r q Q kn pins s us I ru => ?_
  refine call_core C pr S r (os := []) (QQ := fun d os' nw => os' = [] ∧ P d (ω1 ++ cels false nw)) (EE := fun cls fs os' => c.ex cls fs ω1) (fun _ z => nomatch z) List.nodup_nil ⟨rfl, ?_⟩ (fun w G' H' d os' nw A r' e1 cn hn nd ⟨e2, q⟩ => ?_)
    (fun cls dd G' H' fs os' A xd _ _ _ q => ⟨G', ρ, ω1, fs, S.step A, xd, q⟩) I ru
  · exact (by simpa using q)
  · have e3 : os' = [] := List.map_eq_nil_iff.mp e2
    subst e3
    exact kn w G' H' d _ (S.news A (by simpa using cn) hn (by simpa using nd)) A.gg r' q
/-- f(..), one cell is handed in -/
theorem ew_callM (j : Nat) {F : MSpec} (C : Callee c x f fd ps k (mutF F)) (hg : Gl c.X x) (h : EA c (e :: es) ρ ω fun ds ω1 => ∃ cl, ω1[j]? = some cl ∧ F ds cl.a cl.o (fun d o => P d (put ω1 j o)) (fun cls fs o => c.ex cls fs (put ω1 j o))) (hdb : (x == ("__debug__" : Str)) = false := by decide)
    (he : starEach (e :: es) c.X.env = (false, eval e c.X.env) :: starEach es c.X.env := by rfl) (hpl : (backTo pos (starEach es c.X.env)).any (·.1) = false := by rfl) : EW c (.Call (.Name x p) (e :: es) [] pos) ρ ω P := by
  refine ew_core C hg hdb he hpl h fun M G0 H0 G H σ ds ws ω1 pr S r q Q kn pins s us I ru => ?_
  obtain ⟨cl, hc, q⟩ := q
  have own := S.own cl (List.mem_of_getElem? hc)
  have one : ∀ {os' : List (Addr × OD)}, os'.map (·.1) = [cl.a] → ∃ o, os' = [(cl.a, o)] := fun {os'} e => by
    match os', e with
    | [(a, o)], e => 
      have : a = cl.a := by simpa using e
      subst this
      exact ⟨o, rfl⟩
  refine call_core C pr S r (os := [(cl.a, cl.o)]) (QQ := fun d os' nw => nw = [] ∧ ∃ o, os' = [o] ∧ P d (put ω1 j o)) (EE := fun cls fs os' => ∃ o, os' = [o] ∧ c.ex cls fs (put ω1 j o)) (fun p hp => ?_) (by simp) ⟨cl.a, cl.o, rfl, ?_⟩ (fun w G' H' d os' nw A r' e1 cn hn nd ⟨e2, o, e3, q⟩ => ?_)
    (fun cls dd G' H' fs os' A xd e1 cn _ ⟨o, e3, q⟩ => ?_) I ru
  · have ep : p = (cl.a, cl.o) := by simpa using hp
    subst ep
    exact ⟨own.1, own.2.2⟩
  · exact (by simpa using q)
  · obtain ⟨o', rfl⟩ := one e1
    have eo : o' = o := by simpa using e3
    subst eo
    have z := cn (cl.a, o') (by simp)
    exact ⟨G', ρ, _, fs, S.write hc A z.2, xd, q⟩
  · obtain ⟨o', rfl⟩ := one e1
    have eo : o' = o := by simpa using e3
    subst eo
    have z := cn (cl.a, o') (by simp)
    exact kn w G' H' d _ (S.write hc A z.2) A.gg r' q
end
end DL

namespace DL
open PySem PySem.Spec PyProof.Rows L2

/-! ### what a value is seen as: an own list as its items -/
def Vw (ω : List Cel) (x x' : D) : Prop := x' = x ∨ ∃ (p : Addr) (m : Bool) (ds : List D), x = .v (.ref p) ∧ (⟨p, m, .lst ds⟩ : Cel) ∈ ω ∧ x' = .lst ds
theorem Vw.self {ω : List Cel} {x : D} : Vw ω x x := .inl rfl
theorem Vw.cel {ω : List Cel} {p : Addr} {m : Bool} {ds : List D} (j : Nat) (h : ω[j]? = some ⟨p, m, .lst ds⟩) : Vw ω (.v (.ref p)) (.lst ds) := .inr ⟨p, m, ds, rfl, List.mem_of_getElem? h, rfl⟩
section
variable {K : PySem.W.Frag} {T : List (Addr × Str)} {M : List Addr} {G0 H0 G H : Hp} {σ : L2.St} {ρ : Rho} {ω : List Cel}
theorem SI.vw (S : SI K T M G0 H0 G H σ ρ ω) {x x' : D} {w : V} (v : Vw ω x x') (r : R K G x w) : R K H x' w := by
  rcases v with rfl | ⟨p, m, ds, rfl, hc, rfl⟩
  · exact r.mono S.gh
  · cases r
    obtain ⟨_, _, vs, e, rv⟩ := S.own _ hc
    exact ⟨p, vs, rfl, .inl e, rv.mono S.gh⟩
/-- a list, its items known to stay -/
theorem SI.vwL (S : SI K T M G0 H0 G H σ ρ ω) {x : D} {ds : List D} {w : V} (v : Vw ω x (.lst ds)) (r : R K G x w) : ∃ p vs, w = .ref p ∧ Rd H p (.lst vs) ∧ RS K G ds vs := by
  rcases v with rfl | ⟨p, m, ds', rfl, hc, e⟩
  · obtain ⟨p, vs, ew, hs, rv⟩ := r
    exact ⟨p, vs, ew, S.gh.rd hs, rv⟩
  · cases r
    cases e
    obtain ⟨_, _, vs, e, rv⟩ := S.own _ hc
    exact ⟨p, vs, rfl, .inl e, rv⟩
end

/-! ### == of data -/
def D.eqv (x y : D) : Bool := PyData.eqv x.py y.py
mutual
def D.shp : Nat → D → Bool
  | n, .str x => SeqAt.shaped (.str x)
  | 0, .tup _ => false
  | 0, .lst _ => false
  | n + 1, .tup ds => D.shps n ds
  | n + 1, .lst ds => D.shps n ds
  | _, .v _ => false
  | _, .lk _ => false
  | _, .obj _ => false
  | _, _ => true
def D.shps : Nat → List D → Bool
  | _, [] => true
  | n, d :: ds => D.shp n d && D.shps n ds
end
mutual
theorem D.shp_ok : ∀ (n : Nat) (d : D), D.shp n d = true → d.plain = true ∧ d.py.canLay0 = true ∧ d.py.depth ≤ n
  | n, .non, _ => by simp [D.plain, D.py, PyData.canLay0, PyData.depth]
  | n, .bl _, _ => by simp [D.plain, D.py, PyData.canLay0, PyData.depth]
  | n, .int _, _ => by simp [D.plain, D.py, PyData.canLay0, PyData.depth]
  | n, .str x, h => by
    rw [D.shp] at h
    exact ⟨rfl, SeqAt.canLay_of_shaped h, by simp [D.py, PyData.depth]⟩
  | 0, .tup _, h => by simp [D.shp] at h
  | 0, .lst _, h => by simp [D.shp] at h
  | n + 1, .tup ds, h => by
    rw [D.shp] at h
    obtain ⟨a, b, c⟩ := D.shps_ok n ds h
    refine ⟨by rw [D.plain]; exact a, by rw [D.py, PyData.canLay0]; exact b, ?_⟩
    rw [D.py, PyData.depth]; omega
  | n + 1, .lst ds, h => by
    rw [D.shp] at h
    obtain ⟨a, b, c⟩ := D.shps_ok n ds h
    refine ⟨by rw [D.plain]; exact a, by rw [D.py, PyData.canLay0]; exact b, ?_⟩
    rw [D.py, PyData.depth]; omega
  | n, .v _, h => by simp [D.shp] at h
  | n, .lk _, h => by simp [D.shp] at h
  | n, .obj _, h => by simp [D.shp] at h
theorem D.shps_ok : ∀ (n : Nat) (ds : List D), D.shps n ds = true → D.plains ds = true ∧ PyData.canLayAll0 (D.pys ds) = true ∧ PyData.depthAll (D.pys ds) ≤ n
  | n, [], _ => by simp [D.plains, D.pys, PyData.canLayAll0, PyData.depthAll]
  | n, d :: ds, h => by
    rw [D.shps, Bool.and_eq_true] at h
    obtain ⟨a, b, c⟩ := D.shp_ok n d h.1
    obtain ⟨a', b', c'⟩ := D.shps_ok n ds h.2
    refine ⟨by rw [D.plains, a, a']; rfl, by rw [D.pys, PyData.canLayAll0, b, b']; rfl, ?_⟩
    rw [D.pys, PyData.depthAll]; omega
end
theorem D.shp_sh {d : D} (h : D.shp 60 d = true) : d.plain = true ∧ SeqAt.shaped d.py = true := by
  obtain ⟨a, b, c⟩ := D.shp_ok 60 d h
  refine ⟨a, ?_⟩
  unfold SeqAt.shaped
  rw [b, decide_eq_true (by omega)]
  rfl
theorem D.shps_append (n : Nat) : ∀ xs ys : List D, D.shps n (xs ++ ys) = (D.shps n xs && D.shps n ys)
  | [], ys => by rw [D.shps]; rfl
  | x :: xs, ys => by rw [List.cons_append, D.shps, D.shps, D.shps_append n xs ys, Bool.and_assoc]
theorem D.shps_all (n : Nat) : ∀ xs : List D, D.shps n xs = xs.all (D.shp n)
  | [] => by rw [D.shps]; rfl
  | x :: xs => by rw [D.shps, List.all_cons, D.shps_all n xs]
theorem D.shps_map {α : Type} (n : Nat) (f : α → D) (h : ∀ x, D.shp n (f x) = true) (xs : List α) : D.shps n (xs.map f) = true := by
  rw [D.shps_all, List.all_eq_true]
  intro d hd
  obtain ⟨x, _, rfl⟩ := List.mem_map.mp hd
  exact h x
theorem D.shp_int (n : Nat) (i : Int) : D.shp n (.int i) = true := by cases n <;> simp [D.shp]
theorem D.shp_bl (n : Nat) (b : Bool) : D.shp n (.bl b) = true := by cases n <;> simp [D.shp]
theorem D.shp_non (n : Nat) : D.shp n .non = true := by cases n <;> simp [D.shp]
theorem D.shp_tup (n : Nat) (ds : List D) : D.shp (n + 1) (.tup ds) = D.shps n ds := by rw [D.shp]
theorem D.shp_lst (n : Nat) (ds : List D) : D.shp (n + 1) (.lst ds) = D.shps n ds := by rw [D.shp]
theorem D.shps_nil (n : Nat) : D.shps n [] = true := by rw [D.shps]
theorem D.shps_cons (n : Nat) (d : D) (ds : List D) : D.shps n (d :: ds) = (D.shp n d && D.shps n ds) := by rw [D.shps]

/-! ### types -/
def tyD : D → String
  | .non => "NoneType" | .bl _ => "bool" | .int _ => "int" | .str _ => "str" | .tup _ => "tuple" | .lst _ => "list" | .v _ => "" | .lk _ => "" | .obj _ => ""
def D.nv : D → Bool
  | .v _ => false
  | .lk _ => false
  | .obj _ => false
  | _ => true
theorem R.tyx {K : PySem.W.Frag} {H : Hp} {d : D} {w : V} (h : d.nv = true) (r : R K H d w) : TyX K H w (.type (tyD d)) := by
  cases d with
  | non => cases r; exact .base .non
  | bl b => cases r; exact .base (.bl b)
  | int i => cases r; exact .base (.int i)
  | str x => cases r; exact .base (.str x)
  | tup ds =>
    obtain ⟨a, vs, rfl, (q | ⟨o, q⟩) | ⟨o, its, n, hk, hc, _⟩, _⟩ := r
    · exact .base (.tup q)
    · exact .fTuple q
    · exact .kTuple hk hc
  | lst ds =>
    obtain ⟨a, vs, rfl, q | ⟨o, q⟩, _⟩ := r
    · exact .base (.lst q)
    · exact .base (.frz q)
  | v x => cases h
  | lk ns => cases h
  | obj o => cases h
def isI : D → Bool
  | .int _ => true | .bl _ => true | _ => false
def isB : D → Bool
  | .bl _ => true | _ => false
def isT : D → Bool
  | .tup _ => true | _ => false
def isS : D → Bool
  | .str _ => true | _ => false

theorem kb_int : ∀ x : D, x.nv = true → kitB (tyD x) "int" = some (isI x)
  | .non, _ => (by decide +kernel : kitB "NoneType" "int" = some false)
  | .bl _, _ => (by decide +kernel : kitB "bool" "int" = some true)
  | .int _, _ => (by decide +kernel : kitB "int" "int" = some true)
  | .str _, _ => (by decide +kernel : kitB "str" "int" = some false)
  | .tup _, _ => (by decide +kernel : kitB "tuple" "int" = some false)
  | .lst _, _ => (by decide +kernel : kitB "list" "int" = some false)
  | .v _, h => by cases h
  | .lk _, h => by cases h
  | .obj _, h => by cases h
theorem kb_bool : ∀ x : D, x.nv = true → kitB (tyD x) "bool" = some (isB x)
  | .non, _ => (by decide +kernel : kitB "NoneType" "bool" = some false)
  | .bl _, _ => (by decide +kernel : kitB "bool" "bool" = some true)
  | .int _, _ => (by decide +kernel : kitB "int" "bool" = some false)
  | .str _, _ => (by decide +kernel : kitB "str" "bool" = some false)
  | .tup _, _ => (by decide +kernel : kitB "tuple" "bool" = some false)
  | .lst _, _ => (by decide +kernel : kitB "list" "bool" = some false)
  | .v _, h => by cases h
  | .lk _, h => by cases h
  | .obj _, h => by cases h
theorem kb_tuple : ∀ x : D, x.nv = true → kitB (tyD x) "tuple" = some (isT x)
  | .non, _ => (by decide +kernel : kitB "NoneType" "tuple" = some false)
  | .bl _, _ => (by decide +kernel : kitB "bool" "tuple" = some false)
  | .int _, _ => (by decide +kernel : kitB "int" "tuple" = some false)
  | .str _, _ => (by decide +kernel : kitB "str" "tuple" = some false)
  | .tup _, _ => (by decide +kernel : kitB "tuple" "tuple" = some true)
  | .lst _, _ => (by decide +kernel : kitB "list" "tuple" = some false)
  | .v _, h => by cases h
  | .lk _, h => by cases h
  | .obj _, h => by cases h
theorem kb_str : ∀ x : D, x.nv = true → kitB (tyD x) "str" = some (isS x)
  | .non, _ => (by decide +kernel : kitB "NoneType" "str" = some false)
  | .bl _, _ => (by decide +kernel : kitB "bool" "str" = some false)
  | .int _, _ => (by decide +kernel : kitB "int" "str" = some false)
  | .str _, _ => (by decide +kernel : kitB "str" "str" = some true)
  | .tup _, _ => (by decide +kernel : kitB "tuple" "str" = some false)
  | .lst _, _ => (by decide +kernel : kitB "list" "str" = some false)
  | .v _, h => by cases h
  | .lk _, h => by cases h
  | .obj _, h => by cases h
section
variable {c : Cz} {ρ : Rho} {ω : List Cel} {P : PK} {i j : Int} {x y x' y' : D} {f : Value → Value → Sem Value}
/-! ### operators -/
theorem bo_rI {C : Int → Int → Prop} {g : Int → Int → Int} (h : OpR c.X f (rI C fun i j => .int (g i j))) (hc : C i j) (q : P (.int (g i j)) ω) : BO c f ρ (.int i) (.int j) ω P := by
  intro M G0 H0 G H σ v w pr S r1 r2 Q k
  cases r1; cases r2
  exact WB.of h ⟨i, j, rfl, rfl, hc, k _ G H (.int (g i j)) ω S (Ex.refl G) rfl q⟩
theorem bo_rI0 {g : Int → Int → Int} (h : OpR c.X f (rI0 fun i j => .int (g i j))) (q : P (.int (g i j)) ω) : BO c f ρ (.int i) (.int j) ω P := by
  intro M G0 H0 G H σ v w pr S r1 r2 Q k
  cases r1; cases r2
  exact WB.of h ⟨i, j, rfl, rfl, k _ G H (.int (g i j)) ω S (Ex.refl G) rfl q⟩
theorem bo_rB0 {g : Int → Int → Bool} (h : OpR c.X f (rI0 fun i j => .bl (g i j))) (q : P (.bl (g i j)) ω) : BO c f ρ (.int i) (.int j) ω P := by
  intro M G0 H0 G H σ v w pr S r1 r2 Q k
  cases r1; cases r2
  exact WB.of h ⟨i, j, rfl, rfl, k _ G H (.bl (g i j)) ω S (Ex.refl G) rfl q⟩
theorem bo_add (q : P (.int (i + j)) ω) : BO c (binaryOp .Add) ρ (.int i) (.int j) ω P := bo_rI0 op_add q
theorem bo_sub (q : P (.int (i - j)) ω) : BO c (binaryOp .Sub) ρ (.int i) (.int j) ω P := bo_rI0 op_sub q
theorem bo_mul (h : CMulW i j) (q : P (.int (i * j)) ω) : BO c (binaryOp .Mult) ρ (.int i) (.int j) ω P := bo_rI op_mulW h q
theorem bo_mulS (h : CMul i j) (q : P (.int (i * j)) ω) : BO c (binaryOp .Mult) ρ (.int i) (.int j) ω P := bo_rI op_mul h q
theorem bo_fdiv (h : CDiv i j) (q : P (.int (i / j)) ω) : BO c (binaryOp .FloorDiv) ρ (.int i) (.int j) ω P := bo_rI op_fdiv h q
theorem bo_mod (h : 0 < j) (q : P (.int (i % j)) ω) : BO c (binaryOp .Mod) ρ (.int i) (.int j) ω P := bo_rI op_mod h q
theorem bo_pow (h : CPow i j) (q : P (.int (i ^ j.toNat)) ω) : BO c (binaryOp .Pow) ρ (.int i) (.int j) ω P := bo_rI op_pow h q
theorem uo_neg (q : P (.int (-i)) ω) : UO c (unaryOp .USub) ρ (.int i) ω P := by
  intro M G0 H0 G H σ v pr S r1 Q k
  cases r1
  exact WU.of un_neg ⟨i, rfl, k _ G H (.int (-i)) ω S (Ex.refl G) rfl q⟩
theorem bo_lt (q : P (.bl (decide (i < j))) ω) : BO c (compareOp .Lt) ρ (.int i) (.int j) ω P := bo_rB0 op_lt q
theorem bo_le (q : P (.bl (decide (i ≤ j))) ω) : BO c (compareOp .LtE) ρ (.int i) (.int j) ω P := bo_rB0 op_le q
theorem bo_gt (q : P (.bl (decide (j < i))) ω) : BO c (compareOp .Gt) ρ (.int i) (.int j) ω P := bo_rB0 op_gt q
theorem bo_ge (q : P (.bl (decide (j ≤ i))) ω) : BO c (compareOp .GtE) ρ (.int i) (.int j) ω P := bo_rB0 op_ge q
theorem dec_vi : decide (V.int i = V.int j) = decide (i = j) := by
  by_cases h : i = j
  · subst h; simp
  · simp [h]
theorem bo_eqI (q : P (.bl (decide (i = j))) ω) : BO c (compareOp .Eq) ρ (.int i) (.int j) ω P := by
  intro M G0 H0 G H σ v w pr S r1 r2 Q k
  cases r1; cases r2
  exact WB.of op_eq ⟨rfl, by rw [dec_vi]; exact k _ G H (.bl (decide (i = j))) ω S (Ex.refl G) rfl q⟩
theorem bo_neI (q : P (.bl (!decide (i = j))) ω) : BO c (compareOp .NotEq) ρ (.int i) (.int j) ω P := by
  intro M G0 H0 G H σ v w pr S r1 r2 Q k
  cases r1; cases r2
  exact WB.of op_ne ⟨rfl, by rw [dec_vi]; exact k _ G H (.bl (!decide (i = j))) ω S (Ex.refl G) rfl q⟩
theorem bo_eqD (hx : Vw ω x x') (hy : Vw ω y y') (sx : D.shp 60 x' = true) (sy : D.shp 60 y' = true) (q : P (.bl (D.eqv x' y')) ω) : BO c (compareOp .Eq) ρ x y ω P := by
  intro M G0 H0 G H σ v w pr S r1 r2 Q k
  obtain ⟨p1, s1⟩ := D.shp_sh sx
  obtain ⟨p2, s2⟩ := D.shp_sh sy
  exact WB.of (op_eqD pr.room.units) ⟨_, _, R.dp p1 (S.vw hx r1), R.dp p2 (S.vw hy r2), s1, s2, k _ G H (.bl (D.eqv x' y')) ω S (Ex.refl G) rfl q⟩
theorem bo_neD (hx : Vw ω x x') (hy : Vw ω y y') (sx : D.shp 60 x' = true) (sy : D.shp 60 y' = true) (q : P (.bl (!D.eqv x' y')) ω) : BO c (compareOp .NotEq) ρ x y ω P := by
  intro M G0 H0 G H σ v w pr S r1 r2 Q k
  obtain ⟨p1, s1⟩ := D.shp_sh sx
  obtain ⟨p2, s2⟩ := D.shp_sh sy
  exact WB.of (op_neD pr.room.units) ⟨_, _, R.dp p1 (S.vw hx r1), R.dp p2 (S.vw hy r2), s1, s2, k _ G H (.bl (!D.eqv x' y')) ω S (Ex.refl G) rfl q⟩
theorem bo_isB {a b : Bool} (q : P (.bl (decide (a = b))) ω) : BO c (compareOp .Is) ρ (.bl a) (.bl b) ω P := by
  intro M G0 H0 G H σ v w pr S r1 r2 Q k
  cases r1; cases r2
  exact WB.of op_isBl ⟨a, b, rfl, rfl, k _ G H (.bl (decide (a = b))) ω S (Ex.refl G) rfl q⟩
theorem bo_notB {a b : Bool} (q : P (.bl (!decide (a = b))) ω) : BO c (compareOp .IsNot) ρ (.bl a) (.bl b) ω P := by
  intro M G0 H0 G H σ v w pr S r1 r2 Q k
  cases r1; cases r2
  exact WB.of op_notBl ⟨a, b, rfl, rfl, k _ G H (.bl (!decide (a = b))) ω S (Ex.refl G) rfl q⟩
/-! ### + * of sequences -/
theorem bo_catT {xs ys : List D} (hz : xs.length + ys.length ≤ sizeLine) (q : P (.tup (xs ++ ys)) ω) : BO c (binaryOp .Add) ρ (.tup xs) (.tup ys) ω P := by
  intro M G0 H0 G H σ v w pr S r1 r2 Q k
  obtain ⟨a, vs, rfl, ha, rv⟩ := r1
  obtain ⟨b, ws, rfl, hb, rw'⟩ := r2
  refine WB.of op_catA ⟨a, b, vs, ws, rfl, rfl, S.gh.sqT ha, S.gh.sqT hb, by rw [← rv.length, ← rw'.length]; exact hz, fun e => ?_, fun _ e => ?_, fun _ _ p np => ?_⟩
  · subst e
    have ex : xs = [] := List.eq_nil_of_length_eq_zero rv.length
    subst ex
    exact k _ G H (.tup ys) ω S (Ex.refl G) ⟨b, ws, rfl, hb, rw'⟩ q
  · subst e
    have ey : ys = [] := List.eq_nil_of_length_eq_zero rw'.length
    subst ey
    rw [List.append_nil] at q
    exact k _ G H (.tup xs) ω S (Ex.refl G) ⟨a, vs, rfl, ha, rv⟩ q
  · obtain ⟨S2, e2, r2⟩ := S.layT np (rv.append rw')
    exact k _ _ _ _ ω S2 e2 r2 q
theorem RS.rep {K : PySem.W.Frag} {G : Hp} {xs : List D} {vs : List V} (h : RS K G xs vs) : ∀ n : Nat, RS K G (List.replicate n xs).flatten (List.replicate n vs).flatten
  | 0 => rfl
  | n + 1 => by rw [List.replicate_succ, List.replicate_succ, List.flatten_cons, List.flatten_cons]; exact h.append (RS.rep h n)
theorem bo_repT {xs : List D} {n : Int} (hne : xs ≠ []) (h1 : 2 ≤ n) (h2 : n ≤ 1000) (hl : xs.length ≤ 1000) (q : P (.tup (List.replicate n.toNat xs).flatten) ω) : BO c (binaryOp .Mult) ρ (.tup xs) (.int n) ω P := by
  intro M G0 H0 G H σ v w pr S r1 r2 Q k
  obtain ⟨a, vs, rfl, ha, rv⟩ := r1
  cases r2
  refine WB.of op_repT ⟨a, n, vs, rfl, rfl, S.gh.sqT ha, fun e => hne ?_, h1, h2, by rw [← rv.length]; exact hl, fun p np => ?_⟩
  · subst e; exact List.eq_nil_of_length_eq_zero rv.length
  · obtain ⟨S2, e2, r2⟩ := S.layT np (rv.rep n.toNat)
    exact k _ _ _ _ ω S2 e2 r2 q
/-! ### len, isinstance, int, abs, min, list, sorted -/
theorem co_len {xs : List D} (hx : Vw ω x (.lst xs)) (q : P (.int xs.length) ω) : CO c (.builtin "len") ρ [x] ω P := by
  intro M G0 H0 G H σ vs pr S r Q k
  obtain ⟨w, t, rfl, r1, e⟩ := r
  cases e
  obtain ⟨a, ws, rfl, ha, rv⟩ := S.vwL hx r1
  refine WC.of call_len_seq ⟨a, ws, rfl, .inl (.inl ha), ?_⟩
  rw [← rv.length]
  exact k _ G H (.int xs.length) ω S (Ex.refl G) rfl q
theorem co_lenK {ns : List Int} (q : P (.int ns.length) ω) : CO c (.builtin "len") ρ [.lk ns] ω P := by
  intro M G0 H0 G H σ vs pr S r Q k
  obtain ⟨w, t, rfl, r1, e⟩ := r
  cases e
  obtain ⟨a, rfl, ha⟩ := r1
  refine WC.of call_len_seq ⟨a, _, rfl, .inl (S.gh.sqL ha), ?_⟩
  rw [List.length_map]
  exact k _ G H (.int ns.length) ω S (Ex.refl G) rfl q
theorem co_lenT {xs : List D} (q : P (.int xs.length) ω) : CO c (.builtin "len") ρ [.tup xs] ω P := by
  intro M G0 H0 G H σ vs pr S r Q k
  obtain ⟨w, t, rfl, r1, e⟩ := r
  cases e
  obtain ⟨a, ws, rfl, ha, rv⟩ := r1
  refine WC.of call_len_seq ⟨a, ws, rfl, .inr (S.gh.sqT ha), ?_⟩
  rw [← rv.length]
  exact k _ G H (.int xs.length) ω S (Ex.refl G) rfl q
theorem co_isi {n : String} {b : Bool} (hx : x.nv = true) (hk : kitB (tyD x) n = some b) (q : P (.bl b) ω) : CO c (.builtin "isinstance") ρ [x, .v (.ty n)] ω P := by
  intro M G0 H0 G H σ vs pr S r Q k
  obtain ⟨w, t, rfl, r1, w2, t2, rfl, r2, e⟩ := r
  cases e
  cases r2
  exact WC.of call_isi ⟨w, .ty n, .type (tyD x), .type n, b, rfl, .ty n, R.tyx hx (r1.mono S.gh), kit_ty hk, k _ G H (.bl b) ω S (Ex.refl G) rfl q⟩
theorem co_isInt (hx : x.nv = true) (q : P (.bl (isI x)) ω) : CO c (.builtin "isinstance") ρ [x, .v (.ty "int")] ω P := co_isi hx (kb_int _ hx) q
theorem co_isBool (hx : x.nv = true) (q : P (.bl (isB x)) ω) : CO c (.builtin "isinstance") ρ [x, .v (.ty "bool")] ω P := co_isi hx (kb_bool _ hx) q
theorem co_isTup (hx : x.nv = true) (q : P (.bl (isT x)) ω) : CO c (.builtin "isinstance") ρ [x, .v (.ty "tuple")] ω P := co_isi hx (kb_tuple _ hx) q
theorem co_isStr (hx : x.nv = true) (q : P (.bl (isS x)) ω) : CO c (.builtin "isinstance") ρ [x, .v (.ty "str")] ω P := co_isi hx (kb_str _ hx) q
theorem co_int (q : P (.int i) ω) : CO c (.type "int") ρ [.int i] ω P := by
  intro M G0 H0 G H σ vs pr S r Q k
  obtain ⟨w, t, rfl, r1, e⟩ := r
  cases e; cases r1
  exact WC.of call_int1 (.inl ⟨i, rfl, k _ G H (.int i) ω S (Ex.refl G) rfl q⟩)
theorem co_intB {b : Bool} (q : P (.int (if b then 1 else 0)) ω) : CO c (.type "int") ρ [.bl b] ω P := by
  intro M G0 H0 G H σ vs pr S r Q k
  obtain ⟨w, t, rfl, r1, e⟩ := r
  cases e; cases r1
  exact WC.of call_int1 (.inr ⟨b, rfl, k _ G H (.int (if b then 1 else 0)) ω S (Ex.refl G) rfl q⟩)
theorem co_abs (q : P (.int (i.natAbs : Int)) ω) : CO c (.builtin "abs") ρ [.int i] ω P := by
  intro M G0 H0 G H σ vs pr S r Q k
  obtain ⟨w, t, rfl, r1, e⟩ := r
  cases e; cases r1
  have z : (if i < 0 then -i else i) = (i.natAbs : Int) := by split <;> omega
  exact WC.of call_abs ⟨i, rfl, by rw [z]; exact k _ G H (.int (i.natAbs : Int)) ω S (Ex.refl G) rfl q⟩
theorem co_min2 (q : P (.int (min i j)) ω) : CO c (.builtin "min") ρ [.int i, .int j] ω P := by
  intro M G0 H0 G H σ vs pr S r Q k
  obtain ⟨w, t, rfl, r1, w2, t2, rfl, r2, e⟩ := r
  cases e; cases r1; cases r2
  have z : (if j < i then j else i) = min i j := by rw [Int.min_def]; split <;> split <;> omega
  exact WC.of (call_min2 pr.calm) ⟨i, j, rfl, by rw [z]; exact k _ G H (.int (min i j)) ω S (Ex.refl G) rfl q⟩
theorem co_max2 (q : P (.int (max i j)) ω) : CO c (.builtin "max") ρ [.int i, .int j] ω P := by
  intro M G0 H0 G H σ vs pr S r Q k
  obtain ⟨w, t, rfl, r1, w2, t2, rfl, r2, e⟩ := r
  cases e; cases r1; cases r2
  have z : (if j > i then j else i) = max i j := by rw [Int.max_def]; split <;> split <;> omega
  exact WC.of (call_max2 pr.calm) ⟨i, j, rfl, by rw [z]; exact k _ G H (.int (max i j)) ω S (Ex.refl G) rfl q⟩
theorem co_listT {xs : List D} (q : P (.lst xs) ω) : CO c (.type "list") ρ [.tup xs] ω P := by
  intro M G0 H0 G H σ vs pr S r Q k
  obtain ⟨w, t, rfl, r1, e⟩ := r
  cases e
  obtain ⟨a, ws, rfl, ha, rv⟩ := r1
  refine WC.of call_list_of ⟨a, ws, rfl, .inr (S.gh.sqT ha), fun p np => ?_⟩
  obtain ⟨S2, e2, r2⟩ := S.layL np rv
  exact k _ _ _ _ ω S2 e2 r2 q
/-- sorted(t), t a tuple of ints -/
theorem call_sortedTI {X : Cx} : CallR X (.builtin "sorted") (fun vs H Q => ∃ (a : Addr) (ns : List Int), vs = [V.ref a] ∧ SqT X.K H a (ns.map V.int) ∧
  ∀ (ns' : List Int) (p : Addr), ns'.Perm ns → ns'.Pairwise (· ≤ ·) → H p = none → Q (.ref p) (upd H p (.lst (ns'.map V.int)))) := by
  intro pins s σ H vs us Q I r h
  obtain ⟨a, ns, rfl, hs, q⟩ := h
  obtain ⟨its, rv, ⟨o, ho, hc, n, hd⟩, hz⟩ := I.tuple hs
  rw [Vals.ref1 r]
  have hi := rv.ints
  have hz' : its.length ≤ sizeLine := by rw [← rv.length]; exact hz
  refine Calls.call_function_entry PyProof.Rows.kind_sorted PyProof.Rows.plain_sorted PyProof.Rows.entry_sorted (PyProof.Rows.args_sorted1 _) ?_
  unfold Builtin.«sorted»
  refine wpAny_bind (m := checkCount "sorted" 1 1 _) (wpAny_pure ?_)
  refine wpAny_bind (wpAny_collect_seq a (.inr rfl) ho hc hd (fun h' kp => ?_) (by rw [List.size_toArray]; exact hz'))
  rw [List.toList_toArray]
  refine wpAny_bind (wpAny_newList ?_ hz')
  have hoL : (h'.push (seqObj "list" its.toArray 0)).get? h'.objs.size = some (seqObj "list" its.toArray 0) := Heap.get?_push_size _ rfl
  refine wpAny_bind (wpAny_holding (wpAny_call_entry PyProof.Rows.slot_list_sort ⟨_, hoL, rfl⟩ PyProof.Rows.entry_list_sort
    (SrtO.list_sort_ord SrtO.swo_int hoL hz' (fun h2 => SrtO.ints_sortable hi h2) fun out h1 h2 => ⟨_, rfl, ?_⟩) (PyProof.Rows.args_list_sort _)))
  obtain ⟨k1, k2, k3⟩ := SrtO.ints_out hi h1 h2
  obtain ⟨ep, he'⟩ := PyProof.Rows.sortedHeap_at (vs := its) (out := out.toArray) hoL
  have hlen : ((out.map SrtO.iv).map V.int).length ≤ sizeLine := by
    rw [List.length_map, k2.length_eq]
    rw [List.length_map] at hz
    exact hz
  have I1 : L2.Inv X pins σ H { s with heap := h' } := I.kept (t' := s.toks) kp
  have I2 := I1.laid (a := h'.objs.size) (o := .lst ((out.map SrtO.iv).map V.int)) (h' := PyProof.Rows.sortedHeap (h'.push (seqObj "list" its.toArray 0)) h'.objs.size its out.toArray) (t' := s.toks)
    (fun b u e => by
      have lt := Heap.lt_size e
      rw [PyProof.Rows.sortedHeap_old (Nat.ne_of_lt lt) (by rw [Heap.size_push]; exact Nat.lt_succ_of_lt lt)]
      exact Heap.get?_push_of_some _ e) (Nat.le_refl _) ⟨hlen, out, ep, vals_of_ints k1, he'⟩
  exact wpAny_pure ⟨_, rfl, .ref h'.objs.size, _, I2, rfl, q _ _ k2 k3 (I1.hok.fresh (Nat.le_refl _))⟩
theorem co_sortedT {ns : List Int} (q : ∀ ns' : List Int, ns'.Perm ns → ns'.Pairwise (· ≤ ·) → P (.lst (ns'.map D.int)) ω) : CO c (.builtin "sorted") ρ [.tup (ns.map D.int)] ω P := by
  intro M G0 H0 G H σ vs pr S r Q k
  obtain ⟨w, t, rfl, r1, e⟩ := r
  cases e
  obtain ⟨a, ws, rfl, ha, rv⟩ := r1
  have ew := rv.ints
  subst ew
  refine WC.of call_sortedTI ⟨a, ns, rfl, S.gh.sqT ha, fun ns' p h1 h2 np => ?_⟩
  obtain ⟨S2, e2, r2⟩ := S.layL np (RS.of_ints (K := c.X.K) (G := G) ns')
  exact k _ _ _ _ ω S2 e2 r2 (q ns' h1 h2)
end
end DL

namespace DL
open PySem PySem.Spec PyProof.Rows L2

/-! ### subscripts -/
theorem atI_rs {K : PySem.W.Frag} {G : Hp} {ds : List D} {vs : List V} {i : Int} {d : D} (r : RS K G ds vs) (h : atI ds i = some d) : ∃ w, atI vs i = some w ∧ R K G d w := by
  unfold atI at h ⊢
  rw [← r.length]
  cases e : ixN ds.length i with
  | none => rw [e] at h; cases h
  | some j =>
    rw [e] at h
    exact r.get h
/-- x[y] by values -/
def IO (c : Cz) (ρ : Rho) (x y : D) (ω : List Cel) (P : PK) : Prop :=
  ∀ M G0 H0 G H σ v w, Pre c M G0 H0 → SI c.X.K c.T M G0 H0 G H σ ρ ω → R c.X.K G x v → R c.X.K G y w → ∀ Q : VK, Kn c M G0 H0 G σ ρ P Q → rIx c.X.K v w H Q
section
variable {c : Cz} {ρ : Rho} {ω : List Cel} {P : PK} {pos p2 : Pos} {e a b : Expr} {es : List Expr} {d x y : D} {i : Int}
theorem ew_ix (hs : PlainIx b) (h : EW c a ρ ω fun x ω1 => EW c b ρ ω1 fun y ω2 => IO c ρ x y ω2 P) : EW c (.Subscript a b pos) ρ ω P := by
  intro M G0 H0 G H σ pr S Q k
  refine WE.of (pe_ix ix_seq WE.pe WE.pe hs) ?_
  refine h M G0 H0 G H σ pr S _ fun v G1 H1 x ω1 S1 e1 r1 h1 => ?_
  refine h1 M G0 H0 G1 H1 σ pr S1 _ fun w G2 H2 y ω2 S2 e2 r2 h2 => ?_
  exact h2 M G0 H0 G2 H2 σ v w pr S2 (r1.mono e2) r2 Q fun w G' H' d ω' S' e' => k w G' H' d ω' S' (e1.trans (e2.trans e'))
theorem io_lst {ds : List D} (hx : Vw ω x (.lst ds)) (hi : atI ds i = some d) (q : P d ω) : IO c ρ x (.int i) ω P := by
  intro M G0 H0 G H σ v w pr S r1 r2 Q k
  cases r2
  obtain ⟨p, vs, rfl, hl, rv⟩ := S.vwL hx r1
  obtain ⟨w, hw, rw'⟩ := atI_rs rv hi
  exact .inl ⟨p, vs, i, w, rfl, rfl, .inl hl, hw, k w G H d ω S (Ex.refl G) rw' q⟩
theorem io_lk {ns : List Int} {z : Int} (hi : atI ns i = some z) (q : P (.int z) ω) : IO c ρ (.lk ns) (.int i) ω P := by
  intro M G0 H0 G H σ v w pr S r1 r2 Q k
  cases r2
  obtain ⟨p, rfl, hl⟩ := r1
  have hm : atI (ns.map V.int) i = some (.int z) := by
    unfold atI at hi ⊢
    rw [List.length_map]
    cases e : ixN ns.length i with
    | none => rw [e] at hi; cases hi
    | some j =>
      rw [e] at hi
      show (ns.map V.int)[j]? = _
      rw [List.getElem?_map, show ns[j]? = some z from hi]
      rfl
  exact .inl ⟨p, _, i, .int z, rfl, rfl, S.gh.sqL hl, hm, k _ G H (.int z) ω S (Ex.refl G) rfl q⟩
theorem io_tup {ds : List D} (hi : atI ds i = some d) (q : P d ω) : IO c ρ (.tup ds) (.int i) ω P := by
  intro M G0 H0 G H σ v w pr S r1 r2 Q k
  cases r2
  obtain ⟨p, vs, rfl, hl, rv⟩ := r1
  obtain ⟨w, hw, rw'⟩ := atI_rs rv hi
  exact .inr (.inl ⟨p, vs, i, w, rfl, rfl, S.gh.sqT hl, hw, k w G H d ω S (Ex.refl G) rw' q⟩)
/-! ### slices -/
def EWO (c : Cz) (e : Option Expr) (ρ : Rho) (ω : List Cel) (P : Option Int → List Cel → Prop) : Prop := match e with
  | none => P none ω
  | some e => EW c e ρ ω fun d ω1 => ∃ i, d = .int i ∧ P (some i) ω1
def tPO (X : Cx) (e : Option Expr) : TO := match e with
  | none => tNoPart
  | some e => tPart (WE X e)
theorem po_any {X : Cx} : ∀ e : Option Expr, PO X e (tPO X e)
  | none => po_none
  | some _ => po_some WE.pe
theorem ewo_run {e : Option Expr} {PO' : Option Int → List Cel → Prop} (h : EWO c e ρ ω PO') {M : List Addr} {G0 H0 G H : Hp} {σ : L2.St} (pr : Pre c M G0 H0) (S : SI c.X.K c.T M G0 H0 G H σ ρ ω) {Q : Option Int → Hp → Prop}
    (k : ∀ o G' H' ω', SI c.X.K c.T M G0 H0 G' H' σ ρ ω' → Ex G G' → PO' o ω' → Q o H') : tPO c.X e σ H Q := by
  cases e with
  | none => exact k none G H ω S (Ex.refl G) h
  | some e =>
    refine h M G0 H0 G H σ pr S _ fun w G' H' d ω' S' e' r q => ?_
    obtain ⟨i, ed, q⟩ := q
    subst ed
    exact ⟨i, r, k (some i) G' H' ω' S' e' q⟩
def cutD {α : Type} (xs : List α) (lo hi : Option Int) : List α := (xs.drop (HT.sIx xs.length 0 lo)).take (HT.sIx xs.length xs.length hi - HT.sIx xs.length 0 lo)
theorem RS.cut {K : PySem.W.Frag} {G : Hp} {ds : List D} {vs : List V} (r : RS K G ds vs) (lo hi : Option Int) : RS K G (cutD ds lo hi) (cutV vs lo hi) := by
  unfold cutD cutV
  rw [r.length]
  exact (r.drop _).take _
/-- a slice by values -/
def SO (c : Cz) (ρ : Rho) (x : D) (lo hi : Option Int) (ω : List Cel) (P : PK) : Prop :=
  ∀ M G0 H0 G H σ v, Pre c M G0 H0 → SI c.X.K c.T M G0 H0 G H σ ρ ω → R c.X.K G x v → ∀ Q : VK, Kn c M G0 H0 G σ ρ P Q → (rSlA c.X.K v lo hi H Q ∨ (rSlL c.X.K v lo hi H Q ∨ ∃ z : Str, v = .str z ∧ z.length ≤ sizeLine ∧ Q (.str (cutS z lo hi)) H))
theorem ew_slice {lo hi : Option Expr} (h : EW c e ρ ω fun x ω1 => EWO c lo ρ ω1 fun l ω2 => EWO c hi ρ ω2 fun u ω3 => SO c ρ x l u ω3 P) : EW c (.Subscript e (.Slice lo hi none p2) pos) ρ ω P := by
  intro M G0 H0 G H σ pr S Q k
  refine WE.of (pe_slice (sl_tupA.or (sl_list.or sl_str)) WE.pe (po_any lo) (po_any hi)) ?_
  refine h M G0 H0 G H σ pr S _ fun v G1 H1 x ω1 S1 e1 r1 h1 => ?_
  refine ewo_run h1 pr S1 fun l G2 H2 ω2 S2 e2 h2 => ?_
  refine ewo_run h2 pr S2 fun u G3 H3 ω3 S3 e3 h3 => ?_
  exact h3 M G0 H0 G3 H3 σ v pr S3 (r1.mono (e2.trans e3)) Q fun w G' H' d ω' S' e' => k w G' H' d ω' S' (e1.trans (e2.trans (e3.trans e')))
theorem cutD_all {α : Type} (xs : List α) {lo hi : Option Int} (h : HT.sIx xs.length 0 lo = 0 ∧ HT.sIx xs.length xs.length hi = xs.length) : cutD xs lo hi = xs := by
  unfold cutD
  rw [h.1, h.2, List.drop_zero, Nat.sub_zero, List.take_length]
theorem so_tup {ds : List D} {lo hi : Option Int} (q : P (.tup (cutD ds lo hi)) ω) : SO c ρ (.tup ds) lo hi ω P := by
  intro M G0 H0 G H σ v pr S r1 Q k
  obtain ⟨p, vs, rfl, hl, rv⟩ := r1
  refine .inl ⟨p, vs, rfl, S.gh.sqT hl, fun hw => ?_, fun _ a np => ?_⟩
  · have e : cutD ds lo hi = ds := cutD_all ds (by rw [rv.length]; exact hw)
    rw [e] at q
    exact k _ G H (.tup ds) ω S (Ex.refl G) ⟨p, vs, rfl, hl, rv⟩ q
  · obtain ⟨S2, e2, r2⟩ := S.layT np (rv.cut lo hi)
    exact k _ _ _ _ ω S2 e2 r2 q
theorem so_lst {ds : List D} {lo hi : Option Int} (hx : Vw ω x (.lst ds)) (q : P (.lst (cutD ds lo hi)) ω) : SO c ρ x lo hi ω P := by
  intro M G0 H0 G H σ v pr S r1 Q k
  obtain ⟨p, vs, rfl, hl, rv⟩ := S.vwL hx r1
  refine .inr (.inl ⟨p, vs, rfl, .inl hl, fun a np => ?_⟩)
  obtain ⟨S2, e2, r2⟩ := S.layL np (rv.cut lo hi)
  exact k _ _ _ _ ω S2 e2 r2 q
theorem so_str {z : Str} {lo hi : Option Int} (hz : z.length ≤ sizeLine) (q : P (.str (cutS z lo hi)) ω) : SO c ρ (.str z) lo hi ω P := by
  intro M G0 H0 G H σ v pr S r1 Q k
  cases r1
  exact .inr (.inr ⟨z, rfl, hz, k _ G H (.str (cutS z lo hi)) ω S (Ex.refl G) rfl q⟩)
/-- t[::-1] -/
theorem adjust_rev (n : Nat) : Builtin.Slice.sliceAdjust none none (-1) (n : Int) = ((n : Int) - 1, -1) := by
  unfold Builtin.Slice.sliceAdjust
  simp
theorem places_rev (n : Nat) : Builtin.Slice.slicePlaces ((n : Int) - 1) (-1) (-1) = n := by
  unfold Builtin.Slice.slicePlaces
  have h1 : ¬ ((-1 : Int) > 0) := by omega
  simp only [h1, if_false, Int.neg_neg, Int.ediv_one]
  split <;> omega
theorem pick_rev (xs : Array Value) : ((List.range xs.size).filterMap fun (m : Nat) => xs[((xs.size : Int) - 1 + (m : Int) * (-1)).toNat]?).toArray = xs.toList.reverse.toArray := by
  congr 1
  refine List.ext_getElem? fun i => ?_
  have e : ∀ k, k ≤ xs.size → ((List.range k).filterMap fun (m : Nat) => xs[((xs.size : Int) - 1 + (m : Int) * (-1)).toNat]?) = (xs.toList.reverse).take k := by
    intro k
    induction k with
    | zero => intro _; rfl
    | succ k ih =>
      intro hk
      rw [List.range_succ, List.filterMap_append, ih (by omega), List.take_add_one]
      congr 1
      have e1 : ((xs.size : Int) - 1 + (k : Int) * (-1)).toNat = xs.size - 1 - k := by omega
      simp only [List.filterMap_cons, List.filterMap_nil, e1]
      rw [List.getElem?_reverse (by rw [Array.length_toList]; omega), Array.length_toList, Array.getElem?_toList]
      cases xs[xs.size - 1 - k]? <;> rfl
  rw [e xs.size (Nat.le_refl _)]
  have : xs.toList.reverse.length = xs.size := by rw [List.length_reverse, Array.length_toList]
  rw [← this, List.take_length]
theorem getItem_tuple_rev {prog : Program} {w : World} {A : Around} {E : Value → Shared → Prop} {s : Shared} {t sl : Addr} {items : Array Value} {u : Value} {Q : Value → Shared → Prop} (ht : IsTup s.heap t items) (hs : s.heap.IsSliceOf sl .none .none u) (pu : IsPart u (some (-1)))
    (h : Q (.ref s.heap.objs.size) { s with heap := s.heap.push { cls := .type "tuple", data := .seq items.toList.reverse.toArray } })
    (hsz : items.size ≤ sizeLine) : wpAny (model prog w) A (getItem (.ref t) (.ref sl)) Q E s := by
  have htake : sizeOk (.seq items.toList.reverse.toArray) := by
    show items.toList.reverse.toArray.size ≤ sizeLine
    rw [List.size_toArray, List.length_reverse, Array.length_toList]
    exact hsz
  obtain ⟨os, hos, hcs, hds⟩ := id hs
  have hTs : s.TypeIs (.ref sl) "slice" := ⟨os, hos, hcs⟩
  unfold getItem
  try with_reducible refine wpAny_holding ?_
  first | refine wpAny_bind (wpAny_pure ?_) | skip
  refine wpAny_bind (wpAny_sequenceKey ht.typeIs (by decide) ?_)
  refine wpAny_bind (wpAny_callSpecial?_slot (name := Str.ofString "__getitem__") ht.typeIs PyProof.Rows.slot_tuple_getitem
    (wpAny_call_entry PyProof.Rows.slot_tuple_getitem ht.typeIs PyProof.Rows.entry_tuple_getitem ?_ (PyProof.Rows.args_tuple_getitem _ _)))
  show wpAny _ _ (Builtin.Tuple.tupleItemsOf (.ref t) >>= _) _ _ s
  refine wpAny_bind (PyProof.Rows.tupleItemsOf_ ht ?_)
  refine wpAny_bind (wpAny_typeOf hTs ?_)
  rw [if_pos (by decide)]
  have app : ∀ {Q : Int × Int × Nat → Shared → Prop} {A : Around} {E : Value → Shared → Prop}, Q ((items.size : Int) - 1, -1, items.size) s → wpAny (model prog w) A (Builtin.Slice.sliceApplied (.ref sl) (pure (items.size : Int))) Q E s := fun {Q A E} h => by
    unfold Builtin.Slice.sliceApplied Builtin.Slice.sliceFields
    refine wpAny_bind (wpAny_bind (wpAny_field hos hds (x := .none) rfl (wpAny_bind (wpAny_field hos hds (x := .none) rfl (wpAny_bind (wpAny_field hos hds (x := u) rfl (wpAny_pure ?_)))))))
    refine wpAny_bind (HT.slicePart_ pu ?_)
    show wpAny _ _ (if ((-1 : Int) == 0) = true then _ else _) _ _ s
    rw [if_neg (by decide)]
    refine wpAny_bind (HT.slicePart_ .none (wpAny_bind (HT.slicePart_ .none (wpAny_bind (wpAny_pure ?_)))))
    show wpAny _ _ (match Builtin.Slice.sliceAdjust none none (-1) (items.size : Int) with | (lo, hi) => pure (lo, (-1 : Int), Builtin.Slice.slicePlaces lo hi (-1))) _ _ s
    rw [adjust_rev]
    show wpAny _ _ (pure ((items.size : Int) - 1, (-1 : Int), Builtin.Slice.slicePlaces ((items.size : Int) - 1) (-1) (-1))) _ _ s
    rw [places_rev]
    exact wpAny_pure h
  refine wpAny_bind (app ?_)
  have hno : ¬ (((items.size : Int) - 1 == 0 && (-1 : Int) == 1 && items.size == items.size) = true) := by
    intro q
    rw [Bool.and_eq_true, Bool.and_eq_true] at q
    exact absurd q.1.2 (by decide)
  show wpAny _ _ (if ((items.size : Int) - 1 == 0 && (-1 : Int) == 1 && items.size == items.size) = true then _ else _) _ _ s
  rw [if_neg hno, pick_rev]
  first
    | exact wpAny_bind (m := Builtin.Tuple.tupleExact _) (wpAny_newObj_type (wpAny_pure ⟨_, rfl, wpAny_pure h⟩) htake)
    | exact wpAny_bind (m := Builtin.Tuple.tupleExact _) (wpAny_newObj_type (wpAny_bind (wpAny_pure (wpAny_pure ⟨_, rfl, wpAny_pure h⟩))) htake)
    | exact wpAny_bind (wpAny_bind (m := Builtin.Tuple.tupleExact _) (wpAny_newObj_type (wpAny_pure (wpAny_pure ⟨_, rfl, wpAny_pure h⟩)) htake))
    | exact wpAny_bind (wpAny_bind (m := Builtin.Tuple.tupleExact _) (wpAny_newObj_type (wpAny_pure ⟨_, rfl, wpAny_pure h⟩) htake))
end
end DL

namespace DL
open PySem PySem.Spec PyProof.Rows L2

section
variable {c : Cz} {ρ : Rho} {ω : List Cel} {P : PK} {W : PD} {pos p2 : Pos} {e a b o : Expr} {es : List Expr} {d x y : D} {i : Int}
/-- t[::-1] -/
theorem ew_revT {k : Nat} {p1 p3 : Pos} (h : EW c e ρ ω fun x ω1 => ∃ ds, x = .tup ds ∧ P (.tup ds.reverse) ω1) : EW c (.Subscript e (.Slice none none (some (.UnaryOp .USub (.Constant (.int 1) k p1) p2)) p3) pos) ρ ω P := by
  intro M G0 H0 G H σ pr S Q kn pins s I
  refine Subscript_ (thn (h M G0 H0 G H σ pr S (fun v H1 => ∃ (p : Addr) (vs : List V), v = .ref p ∧ SqT c.X.K H1 p vs ∧ ∀ a, H1 a = none → Q (.ref a) (upd H1 a (.tup vs.reverse))) (fun w G1 H1 x ω1 S1 e1 r1 ⟨ds, ed, q⟩ => ?_) pins s I) fun v s1 ⟨x, H1, I1, r1, p, vs, ex, hx, q⟩ => ?_)
  · subst ed
    obtain ⟨p, vs, rfl, hl, rv⟩ := r1
    refine ⟨p, vs, rfl, S1.gh.sqT hl, fun a np => ?_⟩
    obtain ⟨S2, e2, r2⟩ := S1.layT np rv.reverse
    exact kn _ _ _ _ ω1 S2 (e1.trans e2) r2 q
  · subst ex
    cases r1
    have hst : PO c.X (some (.UnaryOp .USub (.Constant (.int 1) k p1) p2)) (tPart (tUn (rU fun i => .int (-i)) (tC (.int 1)))) := po_some (pe_un un_neg pe_int)
    refine wpAny_Slice (thn (po_none.run pins s1 σ H1 (fun o H2 => o = none ∧ H2 = H1) I1 ⟨rfl, rfl⟩) fun vl s2 ⟨l, H2, I2, pl, el, e2⟩ => ?_)
    subst el e2
    refine thn (po_none.run pins s2 σ H2 (fun o H3 => o = none ∧ H3 = H2) I2 ⟨rfl, rfl⟩) fun vu s3 ⟨u, H3, I3, pu, eu, e3⟩ => ?_
    subst eu e3
    refine thn (hst.run pins s3 σ H3 (fun o H4 => o = some (-1) ∧ H4 = H3) I3 ⟨1, rfl, -1, rfl, rfl, rfl⟩) fun vk s4 ⟨o, H4, I4, ps, eo, e4⟩ => ?_
    subst eo e4
    have I5 : L2.Inv c.X pins σ H4 { s4 with heap := s4.heap.push { cls := .type "slice", data := .fields #[vl, vu, vk] } } := I4.kept (t' := s4.toks) fun b ob q => Heap.get?_push_of_some _ q
    obtain ⟨its, r, ht, hz⟩ := I5.tuple hx
    cases pl
    cases pu
    show wpAny (model c.X.prog c.X.w) c.X.A (subscriptTail e (.Slice none none (some (.UnaryOp .USub (.Constant (.int 1) k p1) p2)) p3) (.ref p) (.ref s4.heap.objs.size)) (EP c.X pins σ Q) c.X.xe { s4 with heap := s4.heap.push { cls := .type "slice", data := .fields #[.none, .none, vk] } }
    refine tail_any (ops := [.ref p, .ref s4.heap.objs.size]) ht.typeIs (PyProof.Rows.slot_tuple_getitem.lookup) ?_ (by with_unfolding_all rfl)
    refine getItem_tuple_rev ht (Heap.IsSliceOf.new _ _ _ vk) ps ?_ (by rw [List.size_toArray, ← r.length]; exact hz)
    refine ⟨.ref _, _, I5.laid (t' := s4.toks) (o := .tup vs.reverse) (fun b ob q => Heap.get?_push_of_some _ q) (Nat.le_refl _) ?_, rfl, q _ (I5.hok.fresh (Nat.le_refl _))⟩
    exact ⟨by rw [List.length_reverse]; exact hz, _, by simpa using r.reverse, IsTup.new _ _⟩
/-! ### lists: + * -/
theorem Inv.lstR {X : Cx} {pins : List (Addr × Obj)} {σ : L2.St} {H : Hp} {s : Shared} {l : Addr} {xs : List V} (I : L2.Inv X pins σ H s) (h : Rd H l (.lst xs)) : xs.length ≤ sizeLine ∧ ∃ (its : List Value) (n : Nat), Vals xs its ∧ xs.length = its.length ∧ s.heap.get? l = some { cls := .type "list", data := .seq its.toArray n } := by
  obtain ⟨z, its, n, r, e⟩ := h.ok I.hok
  exact ⟨z, its, n, r, r.length, e⟩
/-- + of lists that may be read -/
theorem op_catR {X : Cx} : OpR X (binaryOp .Add) (fun x y H Q => ∃ l b xs zs, x = .ref l ∧ y = .ref b ∧ Rd H l (.lst xs) ∧ Rd H b (.lst zs) ∧ xs.length + zs.length ≤ sizeLine ∧ ∀ p, H p = none → Q (.ref p) (upd H p (.lst (xs ++ zs)))) := by
  intro pins s σ H x y v u Q I rx ry h
  obtain ⟨l, b, xs, zs, rfl, rfl, hH, hB, hz, q⟩ := h
  cases rx
  cases ry
  obtain ⟨z, its, n, r, hl, e⟩ := Inv.lstR I hH
  obtain ⟨z2, its2, n2, r2, hl2, e2⟩ := Inv.lstR I hB
  refine PySem.P.add_list e e2 ?_ (by rw [List.size_toArray, List.size_toArray]; omega)
  have ea : its.toArray ++ its2.toArray = (its ++ its2).toArray := by simp
  rw [ea]
  exact ⟨.ref _, _, I.lnew (t' := s.toks) (r.append r2) (by rw [List.length_append]; omega), rfl, q _ I.fresh⟩
theorem bo_catL {xs ys : List D} (hx : Vw ω x (.lst xs)) (hy : Vw ω y (.lst ys)) (hz : xs.length + ys.length ≤ sizeLine) (q : P (.lst (xs ++ ys)) ω) : BO c (binaryOp .Add) ρ x y ω P := by
  intro M G0 H0 G H σ v w pr S r1 r2 Q k
  obtain ⟨a, vs, rfl, ha, rv⟩ := S.vwL hx r1
  obtain ⟨b, ws, rfl, hb, rw'⟩ := S.vwL hy r2
  refine WB.of op_catR ⟨a, b, vs, ws, rfl, rfl, ha, hb, by rw [← rv.length, ← rw'.length]; exact hz, fun p np => ?_⟩
  obtain ⟨S2, e2, r2⟩ := S.layL np (rv.append rw')
  exact k _ _ _ _ ω S2 e2 r2 q
theorem bo_catLO {xs ys : List D} (hx : Vw ω x (.lst xs)) (hy : Vw ω y (.lst ys)) (hz : xs.length + ys.length ≤ sizeLine) (q : ∀ p, P (.v (.ref p)) (ω ++ [⟨p, false, .lst (xs ++ ys)⟩])) : BO c (binaryOp .Add) ρ x y ω P := by
  intro M G0 H0 G H σ v w pr S r1 r2 Q k
  obtain ⟨a, vs, rfl, ha, rv⟩ := S.vwL hx r1
  obtain ⟨b, ws, rfl, hb, rw'⟩ := S.vwL hy r2
  refine WB.of op_catR ⟨a, b, vs, ws, rfl, rfl, ha, hb, by rw [← rv.length, ← rw'.length]; exact hz, fun p np => ?_⟩
  exact k _ _ _ (.v (.ref p)) _ (S.layO np (rv.append rw')) (Ex.refl G) rfl (q p)
/-- * of a list -/
theorem op_repR {X : Cx} : OpR X (binaryOp .Mult) (fun x y H Q => ∃ l k xs, x = .ref l ∧ y = .int k ∧ Rd H l (.lst xs) ∧ -(2 ^ 63) ≤ k ∧ k < 2 ^ 63 ∧ xs.length * k.toNat ≤ sizeLine ∧ ∀ p, H p = none → Q (.ref p) (upd H p (.lst (List.replicate k.toNat xs).flatten))) := by
  intro pins s σ H x y v u Q I rx ry h
  obtain ⟨l, k, xs, rfl, rfl, hH, h1, h2, hz, q⟩ := h
  cases rx
  obtain ⟨t, rfl⟩ := ry
  obtain ⟨z, its, n, r, hl, e⟩ := Inv.lstR I hH
  have hlen : its.toArray.size * k.toNat ≤ sizeLine := by rw [List.size_toArray, ← hl]; exact hz
  have hcap : ¬ its.toArray.size * k.toNat > (2 ^ 63 - 1) / 8 := by
    have : (sizeLine : Nat) ≤ (2 ^ 63 - 1) / 8 := by decide
    omega
  have hfit : ¬ (!Builtin.List.listFitsIndex k) = true := by
    rw [fitsIndex_both h1 h2]
    exact Bool.false_ne_true
  have hlong : ¬ Builtin.List.listTooLong (its.toArray.size * k.toNat) = true := by
    rw [notLongL hlen]
    exact Bool.false_ne_true
  have hnew : List.foldl (fun x1 x2 => x1 ++ x2) #[] (List.replicate (if its.toArray.isEmpty = true then 0 else k.toNat) its.toArray) = (List.replicate k.toNat its).flatten.toArray := by
    have f0 : ∀ m : Nat, List.foldl (fun x1 x2 => x1 ++ x2) #[] (List.replicate m its.toArray) = (List.replicate m its).flatten.toArray := fun m => by
      have := foldl_rep its m []
      rw [List.nil_append] at this
      exact this
    rw [f0]
    cases its with
    | nil => simp
    | cons a r' => rw [if_neg (by simp)]
  refine wpAny_binaryOp_repeat_ref (T := "list") (U := "int") (by decide) ⟨_, e, rfl⟩ (fun s' => typeIs_int s' k t) noFill_list_mul F.fills_int_mul F.slot_int_rmul repeat_list F.slot_int_index.lookup
    (call_meets F.slot_int_rmul (typeIs_int s k t) F.entry_int_rmul (F.args_int_rmul_2 _ _) (int___rmul___int_list k t l its.toArray n)
      ⟨e, rfl, ⟨_, e, rfl⟩, call_meets F.slot_list_mul ⟨_, e, rfl⟩ F.entry_list_mul (F.args_list_mul_2 _ _) (AutoListH.list___mul___list_int_3 l its.toArray n k t hfit hcap hlong) ⟨e, ?_⟩⟩)
  rw [hnew]
  exact ⟨.ref _, _, I.lnew (t' := s.toks) (r.rep k.toNat) (by rw [PyProof.Rows.lm_len_rep_flat, Nat.mul_comm]; exact hz), rfl, q _ I.fresh⟩
theorem bo_repL {xs : List D} (hx : Vw ω x (.lst xs)) (h1 : 0 ≤ i) (h2 : i ≤ 100000) (hl : xs.length ≤ 100) (q : P (.lst (List.replicate i.toNat xs).flatten) ω) : BO c (binaryOp .Mult) ρ x (.int i) ω P := by
  intro M G0 H0 G H σ v w pr S r1 r2 Q k
  obtain ⟨a, vs, rfl, ha, rv⟩ := S.vwL hx r1
  cases r2
  refine WB.of op_repR ⟨a, i, vs, rfl, rfl, ha, by omega, by omega, ?_, fun p np => ?_⟩
  · rw [← rv.length, sizeLine_eq]
    have := Nat.mul_le_mul hl (show i.toNat ≤ 100000 by omega)
    omega
  · obtain ⟨S2, e2, r2⟩ := S.layL np (rv.rep i.toNat)
    exact k _ _ _ _ ω S2 e2 r2 q
/-! ### append, x[i] = e -/
theorem OwnAt.no_code {K : PySem.W.Frag} {G H : Hp} {a : Addr} {o : OD} {q : Str} (h : OwnAt K G H a o) : H a ≠ some (LamX.CodeO a q) := by
  cases o with
  | lst ds => obtain ⟨vs, e, _⟩ := h; rw [e]; exact fun z => by cases (show some (HO.lst vs) = some (.ext _) from z)
  | ins C fs => obtain ⟨dx, fv, e, _⟩ := h; rw [e]; exact fun z => by cases (show some (HO.ins C dx fv) = some (.ext _) from z)
  | dK kvs => obtain ⟨kv, e, _⟩ := h; rw [e]; exact fun z => by cases (show some (HO.dK kv) = some (.ext _) from z)
  | dN P w kvs => obtain ⟨xs, e, _⟩ := h; rw [e]; exact fun z => dnO_ne_code (Option.some.inj z)
/-- a cell gets new contents -/
theorem SI.wrO {K : PySem.W.Frag} {T : List (Addr × Str)} {M : List Addr} {G0 H0 G H : Hp} {σ : L2.St} (S : SI K T M G0 H0 G H σ ρ ω) {j : Nat} {cl : Cel} (hc : ω[j]? = some cl) {o' : OD} {u : HO} (ho : OwnAt K G (upd H cl.a u) cl.a o') : SI K T M G0 H0 G (upd H cl.a u) σ ρ (put ω j o') := by
  obtain ⟨g, _, o⟩ := S.own cl (List.mem_of_getElem? hc)
  obtain ⟨u0, e, nt⟩ := o.there
  refine S.write hc ⟨Ex.refl G, fun a x q => ?_, fun a x q n _ => ?_, fun a n q => absurd n q, fun p hp => ?_, S.adv.fz⟩ ho
  · by_cases h : a = cl.a
    · rw [h, g] at q; cases q
    · rw [upd_ne h]; exact S.gh a x q
  · rw [upd_ne (fun z => n (by simp [z]))]; exact q
  · obtain ⟨ps, h1, h2, h3⟩ := S.adv.tab p hp
    refine ⟨ps, ?_, h2, fun pos cv hcv => ?_⟩
    · rw [upd_ne (fun z => nt ps (by rw [z, e] at h1; exact Option.some.inj h1))]; exact h1
    · obtain ⟨c', e1, e2⟩ := h3 pos cv hcv
      refine ⟨c', e1, ?_⟩
      by_cases h : c' = cl.a
      · rw [h] at e2; exact absurd e2 o.no_code
      · rw [upd_ne h]; exact e2
theorem SI.wrL {K : PySem.W.Frag} {T : List (Addr × Str)} {M : List Addr} {G0 H0 G H : Hp} {σ : L2.St} (S : SI K T M G0 H0 G H σ ρ ω) {j : Nat} {cl : Cel} (hc : ω[j]? = some cl) {ds : List D} {vs : List V} (r : RS K G ds vs) : SI K T M G0 H0 G (upd H cl.a (.lst vs)) σ ρ (put ω j (.lst ds)) := S.wrO hc ⟨vs, upd_same, r⟩
theorem ew_append (j : Nat) {apos : Pos} (h : EW c o ρ ω fun x ω1 => ∃ p m ds, x = .v (.ref p) ∧ ω1[j]? = some ⟨p, m, .lst ds⟩ ∧ EW c e ρ ω1 fun d ω2 => ∃ ds2, ω2[j]? = some ⟨p, m, .lst ds2⟩ ∧ ds2.length < sizeLine ∧ P .non (put ω2 j (.lst (ds2 ++ [d]))))
    (hbase : attributeBase o "append" c.X.env (eval o c.X.env) = eval o c.X.env := by rfl)
    (hfew : ((backTo pos (starEach [e] c.X.env)).all (fun x => !x.1) && (backToKw pos (keywordEach [] c.X.env)).all (fun x => x.1.isSome)
      && decide ([e].length + ([] : List Keyword).length + (if ([] : List Keyword).isEmpty then 0 else 1) < 30)) = true := by rfl)
    (hline : (apos.endLine == pos.line) = true := by rfl) (hs : starEach [e] c.X.env = (false, eval e c.X.env) :: starEach [] c.X.env := by rfl) (hplain : (backTo pos (starEach [] c.X.env)).any (·.1) = false := by rfl) :
    EW c (.Call (.Attribute o "append" apos) [e] [] pos) ρ ω P := by
  intro M G0 H0 G H σ pr S Q k
  refine WE.of (pe_bm PySem.F.plainAttrs_list PySem.F.slot_list_append PySem.F.type_list_append mt_append WE.pe (pa_cons WE.pe pa_nil hs) hbase hfew hline hs hplain) ?_
  refine h M G0 H0 G H σ pr S _ fun w G1 H1 x ω1 S1 e1 r1 ⟨p, m, ds, ex, hc, h1⟩ => ?_
  subst ex
  have ew : w = .ref p := r1
  subst ew
  obtain ⟨_, _, vs, eH, rv⟩ := S1.own _ (List.mem_of_getElem? hc)
  refine ⟨.inl ⟨rfl, vs, .inl (.inl eH)⟩, ?_⟩
  refine h1 M G0 H0 G1 H1 σ pr S1 _ fun w2 G2 H2 d ω2 S2 e2 r2 ⟨ds2, hc2, hz, q⟩ => ?_
  obtain ⟨_, _, vs2, eH2, rv2⟩ := S2.own _ (List.mem_of_getElem? hc2)
  refine ⟨p, vs2, w2, rfl, rfl, eH2, by rw [← rv2.length]; exact hz, ?_⟩
  exact k .non G2 _ .non _ (S2.wrL hc2 (rv2.append (RS.one r2))) (e1.trans e2) rfl q
theorem gw_setL (j : Nat) {i : Expr} {N : SK} (h : EW c o ρ ω fun x ω1 => EW c i ρ ω1 fun y ω2 => ∃ p m ds k n, x = .v (.ref p) ∧ ω2[j]? = some ⟨p, m, .lst ds⟩ ∧ y = .int k ∧ ixN ds.length k = some n ∧ N ρ (put ω2 j (.lst (ds.set n d))))
    (ha : ∀ v, assign (.Subscript o i pos) c.X.env v = (do
      let ov ← holding [v] (eval o c.X.env)
      let iv ← holding [v, ov] (eval i c.X.env)
      standAt pos
      holding [v, ov, iv] (setItem ov iv v)
      release [v, ov, iv] []) := by intro _; rfl) : GW c (.Subscript o i pos) d ρ ω N := by
  intro M G0 H0 G H σ w pr S r Q k pins s u I ru
  refine (pg_sub (X := c.X) WE.pe WE.pe set_list ha).run pins s σ H w u Q I ru ?_
  refine h M G0 H0 G H σ pr S _ fun ov G1 H1 x ω1 S1 e1 r1 h1 => ?_
  refine h1 M G0 H0 G1 H1 σ pr S1 _ fun iv G2 H2 y ω2 S2 e2 r2 ⟨p, m, ds, ki, n, ex, hc, ey, hn, q⟩ => ?_
  subst ex ey
  have ew : ov = .ref p := r1
  subst ew
  have ei : iv = .int ki := r2
  subst ei
  obtain ⟨_, _, vs, eH, rv⟩ := S2.own _ (List.mem_of_getElem? hc)
  refine ⟨p, vs, ki, n, rfl, rfl, eH, by rw [← rv.length]; exact hn, ?_⟩
  exact k σ G2 _ ρ _ (S2.wrL hc (rv.set (r.mono (e1.trans e2)) n)) (e1.trans e2) q
end
end DL

namespace DL
open PySem PySem.Spec PyProof.Rows L2

/-! ### comprehensions -/
def Src.items : Src → List D
  | .seq ds => ds
  | .rng lo n => (List.range n).map fun i => .int (lo + (i : Nat))
theorem Src.items_at (s : Src) (i : Nat) : s.items[i]? = s.at i := by
  cases s with
  | seq ds => rfl
  | rng lo n =>
    unfold Src.items Src.at
    rw [List.getElem?_map]
    by_cases h : i < n
    · rw [List.getElem?_range h]; show _ = (if i < n then _ else _); rw [if_pos h]; rfl
    · rw [List.getElem?_eq_none (by simpa using h)]; show _ = (if i < n then _ else _); rw [if_neg h]; rfl
theorem Src.items_len (s : Src) : s.items.length = s.len := by
  cases s with
  | seq ds => rfl
  | rng lo n => unfold Src.items Src.len; simp
theorem wipe_get (σ : L2.St) (k : Nat) : ∀ vs : List Nat, (L2.wipe σ vs)[k]? = if k ∈ vs then (if k < σ.length then some none else none) else σ[k]?
  | [] => by simp [L2.wipe]
  | v :: vs => by
    unfold L2.wipe
    rw [List.getElem?_set, wipe_length]
    by_cases h : v = k
    · subst h
      simp
    · have h' : ¬ k = v := fun e => h e.symm
      rw [if_neg h, wipe_get σ k vs]
      simp [h']
theorem wipe_eq {σ σ2 : L2.St} {vs : List Nat} (hl : σ2.length = σ.length) (h : ∀ k, k ∉ vs → σ2[k]? = σ[k]?) : L2.wipe σ2 vs = L2.wipe σ vs := by
  refine List.ext_getElem? fun k => ?_
  rw [wipe_get, wipe_get, hl]
  by_cases hk : k ∈ vs
  · simp [hk]
  · simp only [hk, if_false]; exact h k hk
theorem wipe_idem (σ : L2.St) (vs : List Nat) : L2.wipe (L2.wipe σ vs) vs = L2.wipe σ vs := wipe_eq (wipe_length σ vs) fun k hk => by rw [wipe_get]; simp [hk]
/-- what a target of names does -/
def GSem (c : Cz) (g : TG) (vs : List Nat) (dom : D → Prop) (st : D → Rho → Rho) : Prop :=
  ∀ M G0 H0 G H (σ : L2.St) (ρ : Rho) ω d w, SI c.X.K c.T M G0 H0 G H σ ρ ω → R c.X.K G d w → dom d → (∀ i ∈ vs, i < σ.length) → ∀ Q : L2.St → Hp → Prop, (∀ σ2, SI c.X.K c.T M G0 H0 G H σ2 (st d ρ) ω → L2.wipe σ2 vs = L2.wipe σ vs → Q σ2 H) → g w σ H Q
theorem gsem_name (c : Cz) (i : Nat) : GSem c (gName i) [i] (fun _ => True) (fun d ρ => ρ.set i (some d)) := by
  intro M G0 H0 G H σ ρ ω d w S r _ hi Q k
  refine k _ (S.store r (hi i (by simp))) (wipe_eq (by rw [List.length_set]) fun k hk => ?_)
  rw [List.getElem?_set_ne (by simpa [eq_comm] using hk)]
def gNs : List Nat → TGs
  | [] => gNil
  | i :: r => gCons (gName i) (gNs r)
def setN : List Nat → List D → Rho → Rho
  | i :: r, d :: ds, ρ => setN r ds (ρ.set i (some d))
  | _, _, ρ => ρ
theorem gsem_tup (c : Cz) (is : List Nat) : GSem c (gTup c.X.K is.length (gNs is)) is (fun d => ∃ ds, d = .tup ds ∧ ds.length = is.length) (fun d ρ => match d with | .tup ds => setN is ds ρ | _ => ρ) := by
  intro M G0 H0 G H σ ρ ω d w S r ⟨ds, ed, hl⟩ hi Q k
  subst ed
  obtain ⟨p, vs, rfl, hs, rv⟩ := r
  refine ⟨p, vs, rfl, S.gh.sqT hs, by rw [← rv.length, hl], ?_⟩
  have key : ∀ (js : List Nat) (ds : List D) (vs : List V) (σ' : L2.St) (ρ' : Rho), (∀ i ∈ js, i ∈ is) → ds.length = js.length → RS c.X.K G ds vs → SI c.X.K c.T M G0 H0 G H σ' ρ' ω → σ'.length = σ.length → L2.wipe σ' is = L2.wipe σ is → (∀ σ2, SI c.X.K c.T M G0 H0 G H σ2 (setN js ds ρ') ω → L2.wipe σ2 is = L2.wipe σ is → Q σ2 H) → gNs js vs σ' H Q := by
    intro js
    induction js with
    | nil =>
      intro ds vs σ' ρ' _ hl rv S' hs' hw k
      cases ds with
      | nil => cases rv; exact ⟨rfl, k σ' S' hw⟩
      | cons a b => cases hl
    | cons j js ih =>
      intro ds vs σ' ρ' hm hl rv S' hs' hw k
      cases ds with
      | nil => cases hl
      | cons d ds =>
        obtain ⟨v, vr, rfl, r1, r2⟩ := rv
        refine ⟨v, vr, rfl, ?_⟩
        have hj : j < σ'.length := by rw [hs']; exact hi j (hm j (by simp))
        refine ih ds vr (σ'.set j (some v)) (ρ'.set j (some d)) (fun i h => hm i (List.mem_cons_of_mem _ h)) (by simpa using hl) r2 (S'.store r1 hj) (by rw [List.length_set]; exact hs') ?_ k
        rw [← hw]
        refine wipe_eq (by rw [List.length_set]) fun k hk => ?_
        rw [List.getElem?_set_ne (fun e => hk (by rw [← e]; exact hm j (by simp)))]
  exact key is ds vs σ ρ (fun _ h => h) hl rv S rfl rfl k

/-- the context of a block -/
abbrev Cz.blk (c : Cz) (s : Shared) (H : Hp) (scope : Scope) (C : Addr) (cl : List (Str × Addr)) (fp : List Addr) : Cz := ⟨c.X.blk s H scope (compEnvC scope cl C c.X.env) fp, c.T, c.k, fun _ _ _ => False⟩
def TsW (c : Cz) (ifs : List Expr) (ρ : Rho) (ω : List Cel) (PB : Bool → List Cel → Prop) : Prop := match ifs with
  | [] => PB true ω
  | [t] => TW c t ρ ω PB
  | _ => False
def WTs (X : Cx) (ifs : List Expr) : TT := match ifs with
  | [] => tYes
  | [t] => WT X t
  | _ => fun _ _ _ => False
theorem WTs.pts {X : Cx} : ∀ ifs : List Expr, PTs X ifs (WTs X ifs)
  | [] => pts_nil
  | [t] => pts_one WT.pt
  | _ :: _ :: _ => ⟨fun _ _ _ _ _ _ h => h.elim⟩
theorem blk_pre {c : Cz} {M M' : List Addr} {G0 H0 G0' H0' : Hp} (pr : Pre c M G0 H0) (s : Shared) (H : Hp) (scope : Scope) (C : Addr) (cl : List (Str × Addr)) (fp : List Addr) : Pre (c.blk s H scope C cl fp) M' G0' H0' :=
  ⟨fun _ _ ⟨_, _, _, _, _, _, _, _, _, _, _, _, _, _, _, _, w⟩ => (by obtain ⟨_, _, _, _, _, _, z⟩ := w; exact z.elim), PassesOwn.never, pr.calm, pr.nd, pr.room⟩
section
variable {c : Cz} {ρ : Rho} {ω : List Cel} {P : PK} {pos : Pos} {elt tg iter : Expr} {ifs : List Expr} {scope : Scope} {own : List (Str × Nat)}
/-- a turn: the tests say t, the element is y -/
def TurnT (c : Cz) (scope : Scope) (ifs : List Expr) (ρ2 : Rho) (ω : List Cel) (t : Bool) : Prop :=
  ∀ p acc s H C cl fp, TsW (c.blk s H scope C cl fp) ifs ρ2 (ω ++ [⟨p, false, .lst acc⟩]) fun b ω3 => b = t ∧ ω3 = ω ++ [⟨p, false, .lst acc⟩]
def TurnE (c : Cz) (scope : Scope) (elt : Expr) (ρ2 : Rho) (ω : List Cel) (y : D) : Prop :=
  ∀ p acc s H C cl fp, EW (c.blk s H scope C cl fp) elt ρ2 (ω ++ [⟨p, false, .lst acc⟩]) fun y' ω4 => y' = y ∧ ω4 = ω ++ [⟨p, false, .lst acc⟩]
/-- what a comprehension asks of its source -/
def LcAsk (c : Cz) (scope : Scope) (elt : Expr) (ifs : List Expr) (vs : List Nat) (dom : D → Prop) (st : D → Rho → Rho) (ρ : Rho) (P : PK) (sr : Src) (ω1 : List Cel) : Prop :=
  sr.len ≤ sizeLine ∧ ∃ (tb : D → Bool) (f : D → D), (∀ n d, sr.at n = some d → dom d ∧ TurnT c scope ifs (st d (vs.foldr (fun v r => r.set v none) ρ)) ω1 (tb d) ∧ (tb d = true → TurnE c scope elt (st d (vs.foldr (fun v r => r.set v none) ρ)) ω1 (f d))) ∧ P (.lst ((sr.items.filter tb).map f)) ω1
def ttB (c : Cz) (scope : Scope) (ifs : List Expr) : TT := fun σ H Q => ∀ s Hb C cl fp, WTs (c.blk s Hb scope C cl fp).X ifs σ H Q
def teB (c : Cz) (scope : Scope) (elt : Expr) : TE := fun σ H Q => ∀ s Hb C cl fp, WE (c.blk s Hb scope C cl fp).X elt σ H Q
theorem ttB.pts (s : Shared) (H : Hp) (C : Addr) (cl : List (Str × Addr)) (fp : List Addr) : PTs (c.X.blk s H scope (compEnvC scope cl C c.X.env) fp) ifs (ttB c scope ifs) :=
  ⟨fun pins s' σ' H' Q' I' z => (WTs.pts (X := (c.blk s H scope C cl fp).X) ifs).run pins s' σ' H' Q' I' (z s H C cl fp)⟩
theorem teB.pe (s : Shared) (H : Hp) (C : Addr) (cl : List (Str × Addr)) (fp : List Addr) : PE (c.X.blk s H scope (compEnvC scope cl C c.X.env) fp) elt (teB c scope elt) :=
  ⟨fun pins s' σ' H' Q' I' z => z s H C cl fp pins s' I'⟩
/-- the reading of a comprehension -/
theorem lc_reading {g : TG} {vs : List Nat} {dom : D → Prop} {st : D → Rho → Rho} (hgs : GSem c g vs dom st)
    (h : IW c tg iter ρ ω (LcAsk c scope elt ifs vs dom st ρ P))
    {M : List Addr} {G0 H0 G H : Hp} {σ : L2.St} (pr : Pre c M G0 H0) (S : SI c.X.K c.T M G0 H0 G H σ ρ ω) (hvs : ∀ i ∈ vs, i < σ.length) {Q : VK} (k : Kn c M G0 H0 G σ ρ P Q) :
    tLc (IWt c tg iter) g (ttB c scope ifs) (teB c scope elt) vs σ H Q := by
  refine h M G0 H0 G H σ pr S _ fun J G1 H1 sr ω1 S1 e1 ⟨hz, tb, f, turn, fin⟩ stop yld => ?_
  intro Da nD
  have SD := S1.cell (o := .lst []) nD ⟨[], upd_same, rfl⟩
  refine ⟨fun n m H' => m = sr.len - n ∧ n ≤ sr.len ∧ ∃ G', SI c.X.K c.T M G0 H0 G' H' (L2.wipe σ vs) (vs.foldr (fun v r => r.set v none) ρ) (ω1 ++ [⟨Da, false, .lst (((sr.items.take n).filter tb).map f)⟩]) ∧ Ex G1 G', ⟨_, rfl, Nat.zero_le _, G1, ?_, Ex.refl _⟩, ?_⟩
  · obtain ⟨ρ', S', er⟩ := SD.wipe vs
    subst er
    exact S'
  rintro n m H' ⟨rfl, hn, G', S', e'⟩
  have hacc : (((sr.items.take n).filter tb).map f).length ≤ n := by
    rw [List.length_map]
    exact Nat.le_trans (List.length_filter_le ..) (List.length_take_le ..)
  by_cases hlt : n < sr.len
  · refine .inr ⟨(stop G' H' n e' S'.gh).2 hlt, fun H2 => ∃ G2, SI c.X.K c.T M G0 H0 G2 H2 (L2.wipe σ vs) (vs.foldr (fun v r => r.set v none) ρ) (ω1 ++ [⟨Da, false, .lst (((sr.items.take (n + 1)).filter tb).map f)⟩]) ∧ Ex G1 G2, fun H2 ⟨G2, S2, e2⟩ => ⟨sr.len - (n + 1), by omega, rfl, hlt, G2, S2, e2⟩, fun w H3 y => ?_⟩
    obtain ⟨G3, d, A, ed, r⟩ := yld G' H' n w H3 e' S'.gh S'.adv.fz S'.adv.tab hlt y
    have S3 := S'.step A
    have take1 : sr.items.take (n + 1) = sr.items.take n ++ [d] := by
      rw [List.take_add_one, Src.items_at, ed]
      rfl
    obtain ⟨hd, ht, he⟩ := turn n d ed
    refine hgs M G0 H0 G3 H3 _ _ _ d w S3 r hd (fun i hi => by rw [wipe_length]; exact hvs i hi) _ fun σ2 S4 hw => ⟨by rw [hw, wipe_idem], ?_⟩
    have back : ∀ {G5 H5 : Hp} {ω5 : List Cel}, SI c.X.K c.T M G0 H0 G5 H5 σ2 (st d (vs.foldr (fun v r => r.set v none) ρ)) ω5 → Ex G3 G5 → SI c.X.K c.T M G0 H0 G5 H5 (L2.wipe σ vs) (vs.foldr (fun v r => r.set v none) ρ) ω5 := fun {G5 H5 ω5} S5 e5 =>
      ⟨S5.adv, S3.len, fun i d q => let ⟨w, q1, q2⟩ := S3.env i d q; ⟨w, q1, q2.mono e5⟩, S5.own, S5.nd, S5.mm⟩
    have last : (ω1 ++ [(⟨Da, false, .lst (((sr.items.take n).filter tb).map f)⟩ : Cel)])[ω1.length]? = some ⟨Da, false, .lst (((sr.items.take n).filter tb).map f)⟩ := by simp
    -- behind the tests
    have tail : ∀ {G5 H5 : Hp}, SI c.X.K c.T M G0 H0 G5 H5 σ2 (st d (vs.foldr (fun v r => r.set v none) ρ)) (ω1 ++ [⟨Da, false, .lst (((sr.items.take n).filter tb).map f)⟩]) → Ex G3 G5 →
        (if tb d = true then (∀ s Hb C cl fp, WE (c.blk s Hb scope C cl fp).X elt σ2 H5 (fun y H4 => ∃ acc, H4 Da = some (.lst acc) ∧ acc.length < sizeLine ∧ (∃ G2, SI c.X.K c.T M G0 H0 G2 (upd H4 Da (.lst (acc ++ [y]))) (L2.wipe σ vs) (vs.foldr (fun v r => r.set v none) ρ) (ω1 ++ [⟨Da, false, .lst (((sr.items.take (n + 1)).filter tb).map f)⟩]) ∧ Ex G1 G2)))
          else (∃ G2, SI c.X.K c.T M G0 H0 G2 H5 (L2.wipe σ vs) (vs.foldr (fun v r => r.set v none) ρ) (ω1 ++ [⟨Da, false, .lst (((sr.items.take (n + 1)).filter tb).map f)⟩]) ∧ Ex G1 G2)) := fun {G5 H5} S5 e5 => by
      cases hb : tb d with
      | true =>
        rw [if_pos rfl]
        intro s0 Hs C cl fp
        refine he hb Da _ s0 Hs C cl fp M G0 H0 G5 H5 σ2 (blk_pre pr s0 Hs scope C cl fp) S5 _ fun w6 G6 H6 y ω6 S6 e6 r6 ⟨ey, eω⟩ => ?_
        subst eω ey
        obtain ⟨_, _, va, eH, rva⟩ := S6.own _ (List.mem_of_getElem? last)
        refine ⟨va, eH, by rw [← rva.length]; omega, G6, ?_, e'.trans (A.gg.trans (e5.trans e6))⟩
        have S7 := (back S6 (e5.trans e6)).wrL last (rva.append (RS.one r6))
        have ep : put (ω1 ++ [(⟨Da, false, .lst (((sr.items.take n).filter tb).map f)⟩ : Cel)]) ω1.length (.lst (((sr.items.take n).filter tb).map f ++ [f d])) = ω1 ++ [⟨Da, false, .lst (((sr.items.take (n + 1)).filter tb).map f)⟩] := by
          unfold put
          rw [last, take1]
          simp [List.filter_append, hb]
        rw [ep] at S7
        exact S7
      | false =>
        rw [if_neg Bool.false_ne_true]
        refine ⟨G5, ?_, e'.trans (A.gg.trans e5)⟩
        have en : ((sr.items.take (n + 1)).filter tb).map f = ((sr.items.take n).filter tb).map f := by rw [take1]; simp [List.filter_append, hb]
        rw [en]
        exact back S5 e5
    intro s0 Hs C cl fp
    have ht := ht Da (((sr.items.take n).filter tb).map f) s0 Hs C cl fp
    match ifs, ht with
    | [], ht =>
      obtain ⟨hb, _⟩ := ht
      have z := tail S4 (Ex.refl G3)
      rw [← hb] at z
      exact z
    | [t], ht =>
      refine ht M G0 H0 G3 H3 σ2 (blk_pre pr s0 Hs scope C cl fp) S4 _ fun b G5 H5 ω5 S5 e5 ⟨eb, eω⟩ => ?_
      subst eω eb
      exact tail S5 e5
    | _ :: _ :: _, ht => exact ht.elim
  · have en : n = sr.len := by omega
    subst en
    have full : sr.items.take sr.len = sr.items := by rw [← Src.items_len, List.take_length]
    rw [full] at S'
    refine .inl ⟨(stop G' H' _ e' S'.gh).1 (Nat.le_refl _), ?_⟩
    obtain ⟨G2, e2, r2, S2⟩ := S'.freeze (j := ω1.length) (p := Da) (ds := (sr.items.filter tb).map f) (by simp)
    have eo : (ω1 ++ [(⟨Da, false, .lst ((sr.items.filter tb).map f)⟩ : Cel)]).eraseIdx ω1.length = ω1 := by simp [List.eraseIdx_append_of_length_le]
    rw [eo] at S2
    refine k _ G2 H' (.lst ((sr.items.filter tb).map f)) ω1 ⟨S2.adv, S1.len, fun i d q => ?_, S2.own, S2.nd, S2.mm⟩ (e1.trans (e'.trans e2)) r2 fin
    obtain ⟨w, q1, q2⟩ := S1.env i d q
    exact ⟨w, q1, q2.mono (e'.trans e2)⟩
/-- [elt for x in iter if ..], x in slot i -/
theorem ew_lc (i : Nat) {own : List (Str × Nat)} (ok : BlkOk c.X.N c.X.env.scope scope own) (hown : own.map (·.2) = [i])
    (hg : c.X.N.Nodup → ∀ s H C cl fp, PG (c.blk s H scope C cl fp).X tg (gName i))
    (h : IW c tg iter ρ ω (LcAsk c scope elt ifs [i] (fun _ => True) (fun d ρ => ρ.set i (some d)) ρ P)) (hs : ∀ x, foldedSetIterable iter c.X.env x = pure x := by intro _; rfl) : EW c (.ListComp elt [⟨tg, iter, ifs, 0⟩] scope pos) ρ ω P := by
  intro M G0 H0 G H σ pr S Q k pins s I
  refine (WE.of (pe_lc pr.calm pr.nd IWt.pi ok (hg pr.nd) (fun s H C cl fp => ttB.pts s H C cl fp) (fun s H C cl fp => teB.pe s H C cl fp) hs) ?_) pins s I
  rw [hown]
  refine lc_reading (gsem_name c i) h pr S (fun j hj => ?_) k
  have : i ∈ own.map (·.2) := by rw [hown]; simp
  obtain ⟨p, hp, ep⟩ := List.mem_map.mp this
  have e : j = i := by simpa using hj
  subst e
  rw [I.len, ← ep]
  exact (List.getElem?_eq_some_iff.mp (ok.ix p hp)).1
/-- the same, the target a tuple of names in slots is -/
theorem ew_lcT (is : List Nat) {own : List (Str × Nat)} (ok : BlkOk c.X.N c.X.env.scope scope own) (hown : own.map (·.2) = is)
    (hg : c.X.N.Nodup → ∀ s H C cl fp, PG (c.blk s H scope C cl fp).X tg (gTup c.X.K is.length (gNs is)))
    (h : IW c tg iter ρ ω (LcAsk c scope elt ifs is (fun d => ∃ ds, d = .tup ds ∧ ds.length = is.length) (fun d ρ => match d with | .tup ds => setN is ds ρ | _ => ρ) ρ P)) (hs : ∀ x, foldedSetIterable iter c.X.env x = pure x := by intro _; rfl) : EW c (.ListComp elt [⟨tg, iter, ifs, 0⟩] scope pos) ρ ω P := by
  intro M G0 H0 G H σ pr S Q k pins s I
  refine (WE.of (pe_lc pr.calm pr.nd IWt.pi ok (hg pr.nd) (fun s H C cl fp => ttB.pts s H C cl fp) (fun s H C cl fp => teB.pe s H C cl fp) hs) ?_) pins s I
  rw [hown]
  refine lc_reading (gsem_tup c is) h pr S (fun j hj => ?_) k
  have : j ∈ own.map (·.2) := by rw [hown]; exact hj
  obtain ⟨p, hp, ep⟩ := List.mem_map.mp this
  rw [I.len, ← ep]
  exact (List.getElem?_eq_some_iff.mp (ok.ix p hp)).1
end
end DL

namespace DL
open PySem PySem.Spec PyProof.Rows L2

/-! ### ways -/
section
variable {A B : Prop} {a b : Bool} {x : D}
theorem ifY (h : b = true) (q : A) : if b = true then A else B := by rw [if_pos h]; exact q
theorem ifN (h : b = false) (q : B) : if b = true then A else B := by subst h; rw [if_neg Bool.false_ne_true]; exact q
theorem ifb (p : b = true → A) (q : b = false → B) : if b = true then A else B := by
  cases b with
  | true => exact ifY rfl (p rfl)
  | false => exact ifN rfl (q rfl)
theorem ifd {c : Prop} [Decidable c] (p : c → A) (q : ¬ c → B) : if decide c = true then A else B := ifb (fun h => p (of_decide_eq_true h)) fun h => q (of_decide_eq_false h)
theorem ifnot (h : if b = true then B else A) : if (!b) = true then A else B := by cases b <;> exact h
theorem ifand (h : if a = true then (if b = true then A else B) else B) : if (a && b) = true then A else B := by cases a <;> exact h
theorem ifor (h : if a = true then A else (if b = true then A else B)) : if (a || b) = true then A else B := by cases a <;> exact h
theorem ifTu (p : ∀ ds, x = .tup ds → A) (q : isT x = false → B) : if isT x = true then A else B := by
  cases x with
  | tup ds => exact ifY rfl (p ds rfl)
  | _ => exact ifN rfl (q rfl)
theorem ifIn (p : ∀ i, x = .int i → A) (p2 : ∀ i, x = .bl i → A) (q : isI x = false → B) : if isI x = true then A else B := by
  cases x with
  | int i => exact ifY rfl (p i rfl)
  | bl i => exact ifY rfl (p2 i rfl)
  | _ => exact ifN rfl (q rfl)
theorem ifSt (p : ∀ z, x = .str z → A) (q : isS x = false → B) : if isS x = true then A else B := by
  cases x with
  | str z => exact ifY rfl (p z rfl)
  | _ => exact ifN rfl (q rfl)
theorem ifBo (p : ∀ z, x = .bl z → A) (q : isB x = false → B) : if isB x = true then A else B := by
  cases x with
  | bl z => exact ifY rfl (p z rfl)
  | _ => exact ifN rfl (q rfl)
theorem rt_bl {QQ : D → Prop} (q : QQ (.bl a)) (h : a = b) : QQ (.bl b) := h ▸ q
theorem rt_int {QQ : D → Prop} {i j : Int} (q : QQ (.int i)) (h : i = j) : QQ (.int j) := h ▸ q
end
section
variable {c : Cz} {ρ : Rho} {ω : List Cel} {P : PK} {PB : Bool → List Cel → Prop} {pos : Pos} {x : Str} {e a b : Expr} {d : D} {i j : Int}
theorem ew_globI (h : ∃ u, c.X.mg x = some u ∧ RelV (.int i) u) (hg : Gl c.X x) (q : P (.int i) ω) (hd : (x == ("__debug__" : Str)) = false := by decide) : EW c (.Name x pos) ρ ω P := by
  obtain ⟨u, h1, h2⟩ := h
  exact ew_glob (d := .int i) h1 h2 rfl hg q hd
theorem ew_globS {z : Str} (h : ∃ u, c.X.mg x = some u ∧ RelV (.str z) u) (hg : Gl c.X x) (q : P (.str z) ω) (hd : (x == ("__debug__" : Str)) = false := by decide) : EW c (.Name x pos) ρ ω P := by
  obtain ⟨u, h1, h2⟩ := h
  exact ew_glob (d := .str z) h1 h2 rfl hg q hd
/-- the value is known beforehand -/
theorem tw_J (B : Bool) (h : TW c e ρ ω fun b ω' => b = B ∧ ω' = ω) (q : PB B ω) : TW c e ρ ω PB :=
  fun M G0 H0 G H σ pr S Q k => h M G0 H0 G H σ pr S Q fun b G' H' ω' S' e' ⟨h1, h2⟩ => by subst h1 h2; exact k _ G' H' _ S' e' q
theorem ew_J (v : D) (h : EW c e ρ ω fun d ω' => d = v ∧ ω' = ω) (q : P v ω) : EW c e ρ ω P :=
  fun M G0 H0 G H σ pr S Q k => h M G0 H0 G H σ pr S Q fun w G' H' d ω' S' e' r ⟨h1, h2⟩ => by subst h1 h2; exact k w G' H' _ _ S' e' r q
theorem ew_imp {P' : PK} (h : EW c e ρ ω P') (q : ∀ d ω', P' d ω' → P d ω') : EW c e ρ ω P :=
  fun M G0 H0 G H σ pr S Q k => h M G0 H0 G H σ pr S Q fun w G' H' d ω' S' e' r h1 => k w G' H' _ _ S' e' r (q _ _ h1)
theorem tw_imp {P' : Bool → List Cel → Prop} (h : TW c e ρ ω P') (q : ∀ d ω', P' d ω' → PB d ω') : TW c e ρ ω PB :=
  fun M G0 H0 G H σ pr S Q k => h M G0 H0 G H σ pr S Q fun b G' H' ω' S' e' h1 => k b G' H' _ S' e' (q _ _ h1)
theorem bo_powN {n : Nat} (h : CPow i n) (q : P (.int (i ^ n)) ω) : BO c (binaryOp .Pow) ρ (.int i) (.int (n : Nat)) ω P := bo_pow h (by rw [Int.toNat_natCast]; exact q)
theorem bo_powT {n : Nat} (hn : j.toNat = n) (h : CPow i j) (q : P (.int (i ^ n)) ω) : BO c (binaryOp .Pow) ρ (.int i) (.int j) ω P := bo_pow h (by rw [hn]; exact q)
/-- what a for or a comprehension walks -/
def VS (d : D) (sr : Src) (ω : List Cel) : Prop := (∃ ds, d = .lst ds ∧ sr = .seq ds) ∨ (∃ ds, d = .tup ds ∧ sr = .seq ds)
end
/-! ### the names of the built-ins -/
theorem bb_len : bootBuiltins "len" = some (.builtin "len") := by decide +kernel
theorem bb_isinstance : bootBuiltins "isinstance" = some (.builtin "isinstance") := by decide +kernel
theorem bb_abs : bootBuiltins "abs" = some (.builtin "abs") := by decide +kernel
theorem bb_min : bootBuiltins "min" = some (.builtin "min") := by decide +kernel
theorem bb_max : bootBuiltins "max" = some (.builtin "max") := by decide +kernel
theorem bb_sorted : bootBuiltins "sorted" = some (.builtin "sorted") := by decide +kernel
theorem bb_sum : bootBuiltins "sum" = some (.builtin "sum") := by decide +kernel
theorem bb_getattr : bootBuiltins "getattr" = some (.builtin "getattr") := by decide +kernel
theorem bb_iter : bootBuiltins "iter" = some (.builtin "iter") := by decide +kernel
theorem bb_next : bootBuiltins "next" = some (.builtin "next") := by decide +kernel
theorem bb_repr : bootBuiltins "repr" = some (.builtin "repr") := by decide +kernel
theorem bb_any : bootBuiltins "any" = some (.builtin "any") := by decide +kernel
theorem bb_all : bootBuiltins "all" = some (.builtin "all") := by decide +kernel
theorem bb_int : bootBuiltins "int" = some (.type "int") := by decide +kernel
theorem bb_bool : bootBuiltins "bool" = some (.type "bool") := by decide +kernel
theorem bb_tuple : bootBuiltins "tuple" = some (.type "tuple") := by decide +kernel
theorem bb_list : bootBuiltins "list" = some (.type "list") := by decide +kernel
theorem bb_str : bootBuiltins "str" = some (.type "str") := by decide +kernel
theorem bb_set : bootBuiltins "set" = some (.type "set") := by decide +kernel
theorem bb_dict : bootBuiltins "dict" = some (.type "dict") := by decide +kernel
theorem bb_range : bootBuiltins "range" = some (.type "range") := by decide +kernel
theorem bb_enumerate : bootBuiltins "enumerate" = some (.type "enumerate") := by decide +kernel
theorem bb_zip : bootBuiltins "zip" = some (.type "zip") := by decide +kernel
end DL

namespace DL
open PySem PySem.Spec PyProof.Rows L2
section
variable {Pg : Program} {w : World} {K : PySem.W.Frag} {mg : Str → Option Value} {base : Heap} {T : List (Addr × Str)}
theorem fn_new {x qual : Str} {st : Stmt} {f : Addr} {fd : FuncData} {N ps : List Str} {k : Nat} {F : NSpec} (Fn : Fun K x qual st f fd) (S : FnScope N ps (defScope st)) (hps : ps.length ≤ N.length) (len : ∀ ds QQ EE, F ds QQ EE → ds.length = ps.length)
    (hbody : ∀ (cdv : Value) (A : Around) (outer : List Env) (s : Shared) (H : Hp) (E : XK) (ds : List D) (QQ : D → List (Addr × OD) → Prop) (EE : Value → List (Str × D) → Prop), F ds QQ EE →
      SW ⟨cxB Pg w K mg base N qual (defScope st) f cdv A outer s H E, T, k, fun cls fs ω => EE cls fs⟩ (defBody st) (rho0 N.length ds) [] { nx := fun _ ω => ∃ nw, nw.Sublist (news ω) ∧ QQ .non nw, rt := fun d ω => ∃ nw, nw.Sublist (news ω) ∧ QQ d nw }) :
    FnOk Pg w K mg base (L2.CX Pg w) (k + 1) f fd ps (toSp K T (newF F)) := by
  refine fn_any Fn S hps (fun ds os QQ EE h => len _ _ _ h.2) fun cdv A outer s H E ds os QQ EE h => ?_
  obtain ⟨rfl, h⟩ := h
  have hb := hbody cdv A outer s H E ds _ _ h
  intro M G0 H0 G1 H1 σ pr S1 De kn
  have mM : M = [] := by rw [← S1.mm]; rfl
  subst mM
  have o0 : ∀ {σ' : L2.St} {G' H' : Hp} {ρ' : Rho} {ω' : List Cel}, SI K T [] G0 H0 G' H' σ' ρ' ω' → outs ω' = [] := fun S' => by
    have z := List.map_eq_nil_iff.mp S'.mm
    unfold outs; rw [z]; rfl
  refine hb [] G0 H0 G1 H1 σ ⟨pr.tk.imp fun cls dd σ' H' ⟨G', ρ', ω', fs, S', xd, he⟩ => ⟨G', ρ', ω', fs, S', xd, ?_⟩, pr.po, pr.calm, pr.nd, pr.room⟩ S1 De ⟨fun σ' G' H' ρ' ω' S' e ⟨nw, hs, q⟩ => kn.nx σ' G' H' ρ' ω' S' e ⟨nw, hs, ?_⟩, fun w σ' G' H' ρ' d ω' S' e r ⟨nw, hs, q⟩ => kn.rt w σ' G' H' ρ' d ω' S' e r ⟨nw, hs, ?_⟩, fun σ' G' H' ρ' ω' S' e q => q.elim, fun σ' G' H' ρ' ω' S' e q => q.elim⟩
  · show EE cls fs (outs ω')
    rw [o0 S']; exact he
  · rw [o0 S']; exact q
  · rw [o0 S']; exact q
theorem fn_mut {x qual : Str} {st : Stmt} {f : Addr} {fd : FuncData} {N ps : List Str} {k : Nat} {F : MSpec} (Fn : Fun K x qual st f fd) (S : FnScope N ps (defScope st)) (hps : ps.length ≤ N.length) (len : ∀ ds a o QQ EE, F ds a o QQ EE → ds.length = ps.length)
    (hbody : ∀ (cdv : Value) (A : Around) (outer : List Env) (s : Shared) (H : Hp) (E : XK) (ds : List D) (a : Addr) (o : OD) (QQ : D → OD → Prop) (EE : Value → List (Str × D) → OD → Prop), F ds a o QQ EE →
      SW ⟨cxB Pg w K mg base N qual (defScope st) f cdv A outer s H E, T, k, fun cls fs ω => ∃ o', outs ω = [o'] ∧ EE cls fs o'⟩ (defBody st) (rho0 N.length ds) [⟨a, true, o⟩] { nx := fun _ ω => ∃ o', outs ω = [o'] ∧ QQ .non o', rt := fun d ω => ∃ o', outs ω = [o'] ∧ QQ d o' }) :
    FnOk Pg w K mg base (L2.CX Pg w) (k + 1) f fd ps (toSp K T (mutF F)) := by
  refine fn_any Fn S hps (fun ds os QQ EE ⟨_, _, _, h⟩ => len _ _ _ _ _ h) fun cdv A outer s H E ds os QQ EE h => ?_
  obtain ⟨a, o, rfl, h⟩ := h
  have hb := hbody cdv A outer s H E ds a o _ _ h
  intro M G0 H0 G1 H1 σ pr S1 De kn
  refine hb M G0 H0 G1 H1 σ ⟨pr.tk.imp fun cls dd σ' H' ⟨G', ρ', ω', fs, S', xd, o', eo, he⟩ => ⟨G', ρ', ω', fs, S', xd, ?_⟩, pr.po, pr.calm, pr.nd, pr.room⟩ S1 De ⟨fun σ' G' H' ρ' ω' S' e ⟨o', eo, q⟩ => kn.nx σ' G' H' ρ' ω' S' e ⟨[], List.nil_sublist _, ?_⟩, fun w σ' G' H' ρ' d ω' S' e r ⟨o', eo, q⟩ => kn.rt w σ' G' H' ρ' d ω' S' e r ⟨[], List.nil_sublist _, ?_⟩, fun σ' G' H' ρ' ω' S' e q => q.elim, fun σ' G' H' ρ' ω' S' e q => q.elim⟩
  · show EE cls fs (outs ω')
    rw [eo]; exact he
  · rw [eo]; exact q
  · rw [eo]; exact q
end
section
variable {c : Cz} {ρ : Rho} {ω ω' : List Cel} {W : PD} {rest : List Stmt}
theorem sw_forget (hs : ω'.Sublist ω) (hm : ω'.filter Cel.m = ω.filter Cel.m) (h : SW c rest ρ ω' W) : SW c rest ρ ω W :=
  fun M G0 H0 G H σ pr S De k => h M G0 H0 G H σ pr ⟨S.adv, S.len, S.env, fun c hc => S.own c (hs.subset hc), S.nd.sublist (hs.map _), by rw [hm]; exact S.mm⟩ De k
theorem ewo_none {PO' : Option Int → List Cel → Prop} (q : PO' none ω) : EWO c none ρ ω PO' := q
theorem ewo_some {e : Expr} {PO' : Option Int → List Cel → Prop} (q : EW c e ρ ω fun d ω1 => ∃ i, d = .int i ∧ PO' (some i) ω1) : EWO c (some e) ρ ω PO' := q
end
end DL

namespace DL
open PySem PySem.Spec PyProof.Rows L2
theorem nv_of_plain {d : D} (h : d.plain = true) : d.nv = true := by cases d <;> first | rfl | cases h
mutual
theorem D.shp_mono : ∀ {n m : Nat} (d : D), n ≤ m → D.shp n d = true → D.shp m d = true
  | n, m, .non, _, _ => D.shp_non m
  | n, m, .bl b, _, _ => D.shp_bl m b
  | n, m, .int i, _, _ => D.shp_int m i
  | n, m, .str x, _, h => by rw [D.shp] at h ⊢; exact h
  | 0, m, .tup ds, _, h => by simp [D.shp] at h
  | 0, m, .lst ds, _, h => by simp [D.shp] at h
  | n + 1, m + 1, .tup ds, hl, h => by rw [D.shp] at h ⊢; exact D.shps_mono ds (by omega) h
  | n + 1, m + 1, .lst ds, hl, h => by rw [D.shp] at h ⊢; exact D.shps_mono ds (by omega) h
  | n, m, .v x, _, h => by simp [D.shp] at h
  | n, m, .lk x, _, h => by simp [D.shp] at h
  | n, m, .obj x, _, h => by simp [D.shp] at h
theorem D.shps_mono : ∀ {n m : Nat} (ds : List D), n ≤ m → D.shps n ds = true → D.shps m ds = true
  | n, m, [], _, _ => D.shps_nil m
  | n, m, d :: ds, hl, h => by
    rw [D.shps, Bool.and_eq_true] at h ⊢
    exact ⟨D.shp_mono d hl h.1, D.shps_mono ds hl h.2⟩
end
theorem D.shps_sub {n : Nat} {xs ys : List D} (h : D.shps n xs = true) (s : ∀ d ∈ ys, d ∈ xs) : D.shps n ys = true := by
  rw [D.shps_all, List.all_eq_true] at h ⊢
  exact fun d hd => h d (s d hd)
theorem D.shps_mem {n : Nat} {xs : List D} {d : D} (h : D.shps n xs = true) (hm : d ∈ xs) : D.shp n d = true := by
  rw [D.shps_all, List.all_eq_true] at h
  exact h d hm
theorem D.shps_ints (n : Nat) (ns : List Int) : D.shps n (ns.map D.int) = true := D.shps_map n _ (fun i => D.shp_int n i) ns
theorem plain_of_shp {n : Nat} {d : D} (h : D.shp n d = true) : d.plain = true := (D.shp_ok n d h).1
theorem nv_of_shp {n : Nat} {d : D} (h : D.shp n d = true) : d.nv = true := nv_of_plain (plain_of_shp h)
theorem plain_mem : ∀ {ds : List D} {d : D}, D.plains ds = true → d ∈ ds → d.plain = true
  | x :: xs, d, h, hm => by
    rw [D.plains, Bool.and_eq_true] at h
    rcases List.mem_cons.mp hm with rfl | hm
    · exact h.1
    · exact plain_mem h.2 hm
theorem rng_at {lo : Int} {m n : Nat} {d : D} (h : (Src.rng lo m).at n = some d) : n < m ∧ d = .int (lo + n) := by
  have e : (if n < m then some (D.int (lo + n)) else none) = some d := h
  split at e
  · exact ⟨‹_›, (Option.some.inj e).symm⟩
  · cases e
theorem cutD_len {α : Type} (xs : List α) (lo hi : Option Int) : (cutD xs lo hi).length ≤ xs.length := by
  unfold cutD
  rw [List.length_take, List.length_drop]
  omega
theorem cutD_sub {α : Type} {xs : List α} {lo hi : Option Int} {d : α} (h : d ∈ cutD xs lo hi) : d ∈ xs := List.mem_of_mem_drop (List.mem_of_mem_take h)
theorem seq_mem {xs : List D} {n : Nat} {d : D} (h : (Src.seq xs).at n = some d) : d ∈ xs := List.mem_of_getElem? h
theorem sorted_eq {ns ms : List Int} (hp : ms.Perm ns) (hs : ms.Pairwise (· ≤ ·)) : decide (ns = ms) = decide (ns.Pairwise (· ≤ ·)) := by
  by_cases h : ns.Pairwise (· ≤ ·)
  · rw [decide_eq_true h, decide_eq_true]
    exact (hp.eq_of_pairwise (fun a b _ _ h1 h2 => Int.le_antisymm h1 h2) hs h).symm
  · rw [decide_eq_false h, decide_eq_false]
    intro e
    exact h (e ▸ hs)
theorem atI_in {α : Type} {xs : List α} {i : Int} (h0 : 0 ≤ i) (h1 : i < xs.length) : ∃ d, atI xs i = some d ∧ d ∈ xs ∧ xs[i.toNat]? = some d := by
  obtain ⟨n, rfl⟩ := Int.eq_ofNat_of_zero_le h0
  have hn : n < xs.length := by omega
  have e : xs[n]? = some xs[n] := List.getElem?_eq_getElem hn
  exact ⟨xs[n], atI_nat e, List.getElem_mem hn, by simpa using e⟩
section
variable {c : Cz} {ρ : Rho} {ω : List Cel} {P : PK} {i : Int}
theorem io_lkA {ns : List Int} (h0 : 0 ≤ i) (h1 : i < ns.length) (q : ∀ z, ns[i.toNat]? = some z → P (.int z) ω) : IO c ρ (.lk ns) (.int i) ω P := by
  obtain ⟨d, e, _, e2⟩ := atI_in h0 h1
  exact io_lk e (q d e2)
theorem io_tupA {ds : List D} (h0 : 0 ≤ i) (h1 : i < ds.length) (q : ∀ d, ds[i.toNat]? = some d → P d ω) : IO c ρ (.tup ds) (.int i) ω P := by
  obtain ⟨d, e, _, e2⟩ := atI_in h0 h1
  exact io_tup e (q d e2)
theorem io_lstA {ds : List D} {x : D} (hx : Vw ω x (.lst ds)) (h0 : 0 ≤ i) (h1 : i < ds.length) (q : ∀ d, ds[i.toNat]? = some d → P d ω) : IO c ρ x (.int i) ω P := by
  obtain ⟨d, e, _, e2⟩ := atI_in h0 h1
  exact io_lst hx e (q d e2)
end
/-! ### == of data, law by law -/
def D.eqvs (xs ys : List D) : Bool := PyData.eqvAll (D.pys xs) (D.pys ys)
section
variable {x y : D} {xs ys : List D} {i j : Int} {a b : Bool}
theorem beqI : (i == j) = decide (i = j) := by rw [Bool.eq_iff_iff, beq_iff_eq, decide_eq_true_eq]
theorem eqv_ii : D.eqv (.int i) (.int j) = decide (i = j) := by show PyData.eqv (.int i) (.int j) = _; rw [PyData.eqv, beqI]
theorem eqv_bb : D.eqv (.bl a) (.bl b) = decide (a = b) := by show PyData.eqv (.bool a) (.bool b) = _; rw [PyData.eqv]; cases a <;> cases b <;> rfl
theorem eqv_bi : D.eqv (.bl a) (.int j) = decide ((if a then 1 else 0) = j) := by show PyData.eqv (.bool a) (.int j) = _; rw [PyData.eqv, beqI]
theorem eqv_ib : D.eqv (.int j) (.bl a) = decide (j = (if a then 1 else 0)) := by show PyData.eqv (.int j) (.bool a) = _; rw [PyData.eqv, beqI]
theorem eqv_nn : D.eqv .non .non = true := by show PyData.eqv .none .none = _; rw [PyData.eqv]
theorem eqv_ss {s z : Str} : D.eqv (.str s) (.str z) = decide (s = z) := by show PyData.eqv (.str s) (.str z) = _; rw [PyData.eqv, Bool.eq_iff_iff, beq_iff_eq, decide_eq_true_eq]
theorem eqv_tt : D.eqv (.tup xs) (.tup ys) = D.eqvs xs ys := by show PyData.eqv (D.py (.tup xs)) (D.py (.tup ys)) = _; rw [D.py, D.py, PyData.eqv]; rfl
theorem eqv_ll : D.eqv (.lst xs) (.lst ys) = D.eqvs xs ys := by show PyData.eqv (D.py (.lst xs)) (D.py (.lst ys)) = _; rw [D.py, D.py, PyData.eqv]; rfl
theorem eqvs_nil : D.eqvs [] [] = true := by unfold D.eqvs; rw [D.pys, PyData.eqvAll]
theorem eqvs_nc : D.eqvs [] (y :: ys) = false := by unfold D.eqvs; rw [D.pys, D.pys, PyData.eqvAll]
theorem eqvs_cn : D.eqvs (x :: xs) [] = false := by unfold D.eqvs; rw [D.pys, D.pys, PyData.eqvAll]
theorem eqvs_cons : D.eqvs (x :: xs) (y :: ys) = (D.eqv x y && D.eqvs xs ys) := by unfold D.eqvs; rw [D.pys, D.pys, PyData.eqvAll]; rfl
theorem eqvs_ints : ∀ ns ms : List Int, D.eqvs (ns.map D.int) (ms.map D.int) = decide (ns = ms)
  | [], [] => by rw [List.map_nil, eqvs_nil]; rfl
  | [], _ :: _ => by rw [List.map_nil, List.map_cons, eqvs_nc]; simp
  | _ :: _, [] => by rw [List.map_nil, List.map_cons, eqvs_cn]; simp
  | n :: ns, m :: ms => by rw [List.map_cons, List.map_cons, eqvs_cons, eqv_ii, eqvs_ints ns ms]; simp
theorem eqvs_len : ∀ xs ys : List D, D.eqvs xs ys = true → xs.length = ys.length
  | [], [], _ => rfl
  | [], _ :: _, h => by rw [eqvs_nc] at h; cases h
  | _ :: _, [], h => by rw [eqvs_cn] at h; cases h
  | x :: xs, y :: ys, h => by
    rw [eqvs_cons, Bool.and_eq_true] at h
    rw [List.length_cons, List.length_cons, eqvs_len xs ys h.2]
theorem eqvs_nilL : D.eqvs xs [] = decide (xs = []) := by cases xs with
  | nil => rw [eqvs_nil]; rfl
  | cons a b => rw [eqvs_cn]; simp
theorem eqvs_nilR : D.eqvs [] xs = decide (xs = []) := by cases xs with
  | nil => rw [eqvs_nil]; rfl
  | cons a b => rw [eqvs_nc]; simp
theorem eqv_refl {n : Nat} (h : D.shp n x = true) : D.eqv x x = true := SeqAt.eqv_refl _ (D.shp_ok n x h).2.1
theorem eqvs_refl {n : Nat} (h : D.shps n xs = true) : D.eqvs xs xs = true := SeqAt.eqvAll_refl _ (D.shps_ok n xs h).2.1
end
end DL

namespace DL
open PySem PySem.Spec PyProof.Rows L2
/-! ### the head -/
theorem cx_top {P : Program} {w : World} {H : Hp} {s s' : Shared} {e : Value} (h : L2.CX P w [] H s (fun _ _ _ => False) e s') : False := by
  obtain ⟨_, _, _, _, _, _, _, _, _, _, _, _, z⟩ := h
  exact z
theorem law_start {K : PySem.W.Frag} {H : Hp} {a : Addr} {ns : List Int} {F : PSpec} (ho : Only H) (hS : SqL K H a (ns.map V.int)) (h : ∀ (QQ : D → Prop) (EE : Value → List (Str × D) → Prop), QQ (.bl true) → F [.lk ns] QQ EE) :
    toSp K [] (pureF F) [.ref a] H (fun v _ => v = .bl true) fun _ _ _ => False := by
  have h1 : ∀ b o, H b = some o → Fz o := fun b o e => by
    rcases ho b with z | ⟨o', xs, z⟩
    · rw [z] at e; cases e
    · rw [z] at e; cases e; exact True.intro
  have h2 : LamX.Tabs [] H := fun p hp => nomatch hp
  have h3 : RS K H [D.lk ns] [V.ref a] := ⟨.ref a, [], rfl, ⟨a, rfl, hS⟩, rfl⟩
  have h4 : Cells K H H [] := fun p hp => nomatch hp
  exact ⟨H, [.lk ns], [], fun d _ _ => d = .bl true, fun _ _ _ => False, Ex.refl H, h1, h2, h3, h4, List.nodup_nil, ⟨rfl, h _ _ rfl⟩, fun w G' H' d os' nw _ r _ _ _ _ e => by subst e; exact r, fun _ _ _ _ _ _ _ _ _ _ _ z => z⟩
end DL

namespace DL
open PySem PySem.Spec PyProof.Rows L2
/-! ### raise -/
abbrev veB : List Value := [.type "ValueError", .type "Exception", .type "BaseException", .type "object"]
/-- an error class of the text without an __init__ of its own -/
structure ExC (K : PySem.W.Frag) (mg : Str → Option Value) (x : Str) (C : Addr) : Prop where
  g : mg x = some (.ref C)
  q : PySem.W.excIn K C veB "ValueError.__new__" = true
  k : PySem.W.keepIn K (.ref C) = true
  s : PySem.W.subIn K (.ref C) (.type "BaseException") = some true
  t : PySem.W.typeIn K (.ref C) = some (.type "type")
theorem s1_raise {c : Cz} {ρ : Rho} {ω : List Cel} {W : PD} {x m : Str} {j : Nat} {p p2 pos pos' : Pos} {C : Addr} (E : ExC c.X.K c.X.mg x C) (hg : Gl c.X x) (q : c.ex (.ref C) [] ω) (hdb : (x == ("__debug__" : Str)) = false := by decide) :
    SW1 c (.Raise (some (.Call (.Name x p) [.Constant (.str m) j p2] [] pos)) none pos') ρ ω W := by
  intro M G0 H0 G H σ pr S De k
  refine WS1.of (ps_raise pr.calm pr.tk (pmk_own F.excBase_ValueError E.q E.g E.k (raises_own E.s E.t) hg hdb)) ?_
  exact ⟨G, ρ, ω, [], S, .inl rfl, q⟩
end DL

namespace DL
open PySem PySem.Spec PyProof.Rows L2
section
variable {c : Cz} {ρ : Rho} {ω : List Cel} {P : PK} {x : D}
/-! ### sum, max, min of ints in a list; tuple of a list -/
theorem SI.vwInts {K : PySem.W.Frag} {T : List (Addr × Str)} {M : List Addr} {G0 H0 G H : Hp} {σ : L2.St} (S : SI K T M G0 H0 G H σ ρ ω) {ns : List Int} {w : V} (v : Vw ω x (.lst (ns.map D.int))) (r : R K G x w) : ∃ p, w = .ref p ∧ SqL K H p (ns.map V.int) := by
  obtain ⟨p, vs, e, h, rv⟩ := S.vwL v r
  have := rv.ints
  subst this
  exact ⟨p, e, .inl h⟩
theorem co_sumL {ns : List Int} (hx : Vw ω x (.lst (ns.map D.int))) (q : P (.int ns.sum) ω) : CO c (.builtin "sum") ρ [x] ω P := by
  intro M G0 H0 G H σ vs pr S r Q k
  obtain ⟨w, t, rfl, r1, e⟩ := r
  cases e
  obtain ⟨p, rfl, h⟩ := S.vwInts hx r1
  exact WC.of (cr_sum pr.calm) ⟨p, ns, rfl, h, k _ G H (.int ns.sum) ω S (Ex.refl G) rfl q⟩
theorem co_maxL {ns : List Int} (hx : Vw ω x (.lst (ns.map D.int))) (hn : 0 < ns.length) (q : ∀ m, m ∈ ns → (∀ y ∈ ns, y ≤ m) → P (.int m) ω) : CO c (.builtin "max") ρ [x] ω P := by
  intro M G0 H0 G H σ vs pr S r Q k
  obtain ⟨w, t, rfl, r1, e⟩ := r
  cases e
  obtain ⟨p, rfl, h⟩ := S.vwInts hx r1
  exact WC.of (cr_max pr.calm) ⟨p, ns, rfl, h, hn, fun m h1 h2 => k _ G H (.int m) ω S (Ex.refl G) rfl (q m h1 h2)⟩
theorem co_minL {ns : List Int} (hx : Vw ω x (.lst (ns.map D.int))) (hn : 0 < ns.length) (q : ∀ m, m ∈ ns → (∀ y ∈ ns, m ≤ y) → P (.int m) ω) : CO c (.builtin "min") ρ [x] ω P := by
  intro M G0 H0 G H σ vs pr S r Q k
  obtain ⟨w, t, rfl, r1, e⟩ := r
  cases e
  obtain ⟨p, rfl, h⟩ := S.vwInts hx r1
  exact WC.of (cr_min pr.calm) ⟨p, ns, rfl, h, hn, fun m h1 h2 => k _ G H (.int m) ω S (Ex.refl G) rfl (q m h1 h2)⟩
theorem co_tupleL {xs : List D} (hx : Vw ω x (.lst xs)) (q : P (.tup xs) ω) : CO c (.type "tuple") ρ [x] ω P := by
  intro M G0 H0 G H σ vs pr S r Q k
  obtain ⟨w, t, rfl, r1, e⟩ := r
  cases e
  obtain ⟨a, ws, rfl, ha, rv⟩ := S.vwL hx r1
  refine WC.of call_tuple_of ⟨a, ws, rfl, .inl ⟨.inl ha, fun p np => ?_⟩⟩
  obtain ⟨S2, e2, r2⟩ := S.layT np rv
  exact k _ _ _ _ ω S2 e2 r2 q
theorem co_tupleT {xs : List D} (q : P (.tup xs) ω) : CO c (.type "tuple") ρ [.tup xs] ω P := by
  intro M G0 H0 G H σ vs pr S r Q k
  obtain ⟨w, t, rfl, r1, e⟩ := r
  cases e
  obtain ⟨a, ws, rfl, ha, rv⟩ := r1
  exact WC.of call_tuple_of ⟨a, ws, rfl, .inr ⟨S.gh.sqT ha, k _ G H (.tup xs) ω S (Ex.refl G) ⟨a, ws, rfl, ha, rv⟩ q⟩⟩
end
/-! ### enumerate -/
def enumD (xs : List D) : List D := xs.zipIdx.map fun p => .tup [.int (p.2 : Nat), p.1]
theorem enumD_at (xs : List D) (i : Nat) : (enumD xs)[i]? = xs[i]?.map fun d => .tup [.int (i : Nat), d] := by
  unfold enumD
  rw [List.getElem?_map, List.getElem?_zipIdx]
  cases xs[i]? <;> simp
theorem enumD_len (xs : List D) : (enumD xs).length = xs.length := by unfold enumD; simp
section
variable {c : Cz} {ρ : Rho} {ω : List Cel} {pos tpos p : Pos} {e : Expr} {elts : List Expr} {kk : Nat}
theorem iw_enum {PI' : Src → List Cel → Prop} (hm : c.X.mg "enumerate" = none) (hg : Gl c.X "enumerate") (h : EW c e ρ ω fun d ω1 => ∃ xs, d = .lst xs ∧ PI' (.seq (enumD xs)) ω1) (hs : starEach [e] c.X.env = [(false, eval e c.X.env)] := by rfl) :
    IW c (.Tuple elts kk tpos) (.Call (.Name "enumerate" p) [e] [] pos) ρ ω PI' := by
  intro M G0 H0 G H σ pr S R' k
  refine IWt.of (pi_enum hg hm (pa_cons WE.pe pa_nil hs) hs) ?_
  refine h M G0 H0 G H σ pr S _ fun w G1 H1 d ω1 S1 e1 r1 ⟨xs, ed, q⟩ => ?_
  subst ed
  obtain ⟨a, vs, ew, ha, rv⟩ := r1
  subst ew
  have hl : (Src.seq (enumD xs)).len = xs.length := enumD_len xs
  refine ⟨a, vs, rfl, .inl (S1.gh.rd ha), k _ G1 H1 _ ω1 S1 e1 q (fun G2 H2 i g1 g2 => ?_) fun G2 H2 i w H3 g1 g2 fz tb hi y => ?_⟩
  · have hv : SqL c.X.K H2 a vs := .inl (g2.rd (g1.rd ha))
    rw [hl]
    refine ⟨fun hh => ⟨vs, hv, by rw [← rv.length]; exact hh⟩, fun hh => ⟨vs, vs[i]'(by rw [← rv.length]; exact hh), hv, by simp⟩⟩
  · obtain ⟨t, x, rfl, nt, rfl, f⟩ := y
    have hv : SqL c.X.K H2 a vs := .inl (g2.rd (g1.rd ha))
    obtain ⟨d, e1, r⟩ := (rv.mono g1).get' (f vs hv)
    have A : Adv c.T [] G2 H2 (upd G2 t (.tup [.int (i : Nat), x])) (upd H2 t (.tup [.int (i : Nat), x])) := Adv.lay g2 tb fz nt True.intro
    have r2 : RS c.X.K (upd G2 t (.tup [.int (i : Nat), x])) [.int (i : Nat), d] [.int (i : Nat), x] := ⟨.int (i : Nat), [x], rfl, rfl, ⟨x, [], rfl, r.mono A.gg, rfl⟩⟩
    exact ⟨_, .tup [.int (i : Nat), d], A, by show (enumD xs)[i]? = _; rw [enumD_at, e1]; rfl, ⟨t, _, rfl, .inl (.inl upd_same), r2⟩⟩
end
/-! ### the last -/
theorem ixN_last {α : Type} (xs : List α) (d : α) : ixN (xs ++ [d]).length (-1) = some xs.length := by
  unfold ixN
  rw [if_neg (by omega), if_pos (by simp; omega), List.length_append, List.length_singleton]
  congr 1
  omega
theorem set_last {α : Type} (xs : List α) (d e : α) : (xs ++ [d]).set xs.length e = xs ++ [e] := by
  rw [List.set_append_right _ _ (Nat.le_refl _)]; simp
end DL

namespace DL
open PySem PySem.Spec PyProof.Rows L2
/-! ### try: the first clauses are told, what stands behind them is never asked -/
/-- a wish for each told clause -/
abbrev TSx := Addr → Value → Option Addr → TS
def wPre (K : PySem.W.Frag) (De : Ends) : List (Value × TSx) → WX
  | [] => fun _ _ _ _ => False
  | p :: r => fun u o σ H => ∃ b, PySem.W.exmOne K u p.1 = some b ∧ if b = true then ∀ a, H a = none → p.2 a u o De σ H else wPre K De r u o σ H
inductive Pref (X : Cx) : List ExceptHandler → List (Value × TSx) → Prop
  | rest (hs : List ExceptHandler) : Pref X hs []
  | told {x : Str} {k : Value} {g : TSx} {st : Stmt} {sts : List Stmt} {q1 q2 : Pos} {hs : List ExceptHandler} {l : List (Value × TSx)} (nm : Names X x k)
      (su : ∀ (a : Addr) (ob : Obj) (u : Value) (o : Option Addr) (pins : List (Addr × Obj)), Zc u o ob → (∃ fs, ob.data = .fields fs) →
        PSs (X.suite a ((a, ob) :: pins)) (st :: sts) (g a u o))
      (r : Pref X hs l) : Pref X (.ExceptHandler (some (.Name x q1)) none (st :: sts) q2 :: hs) ((k, g) :: l)
section
variable {X : Cx} {pins : List (Addr × Obj)} {σ : L2.St} {H : Hp} {De : Ends}
/-- the clauses, asked one by one, the exception on the ground -/
theorem ask_pre {a : Addr} {u : Value} {o : Option Addr} {B : Heap} {t : Shared} {OL : List Env} (ok : X.Ok) 
    (land : HandSPX.FlyingZ B OL a (Zc u o) t.heap)
    (Jt : ∀ h', HandSPX.FlyingZ B OL a (Zc u o) h' → t.heap.UpToSlots h' → Inv X pins σ H { t with heap := h' })
    (away : ∀ (h' : Heap) (ob : Obj) (fs : Array Value), HandSPX.FlyingZ B OL a (Zc u o) h' → h'.get? a = some ob → ob.data = .fields fs → a ≠ X.env.locals ∧ a ∉ X.fs) (na : H a = none) :
    ∀ {hs : List ExceptHandler} {l : List (Value × TSx)}, Pref X hs l → wPre X.K De l u o σ H → wpAny (model X.prog X.w) X.A (handleBy (.ref a) X.env hs) (SP X pins De) X.xe t := by
  obtain ⟨ob, fs, ho, hz, hd⟩ := land.there
  have up0 : t.heap.UpToSlots t.heap := Heap.UpToSlots.refl _
  have J3 : Inv X pins σ H t := Jt t.heap land up0
  obtain ⟨nl, nf⟩ := away t.heap ob fs land ho hd
  have S3 := J3.suite ho hd na nl nf
  intro hs l pf
  induction pf with
  | rest hs => exact fun w => w.elim
  | @told x k g st sts q1 q2 hs l nm su r ih =>
    rintro ⟨b, hb, w⟩
    refine wpAny_handleBy_cons (codeAny_handlers_test ?_) (by intro q; cases q)
    have seen : PySem.W.Looks (model X.prog X.w) t.heap (typeOf (.ref a)) u := fun _ _ _ _ kp q => wpAny_typeOf_ref (kp _ _ ho) (by rw [hz.1]; exact q)
    have ask := PySem.W.exm_one (M := model X.prog X.w) J3.kIn seen hb
    have name : ∀ {Q E : Value → Shared → Prop}, Q k t → wpAny (model X.prog X.w) (X.A.mark (some (.ref a))) (eval (.Name x q1) X.env) Q E t := by
      intro Q E q
      obtain ⟨g1, g2, g3⟩ := nm
      rcases g3 with m1 | ⟨m1, m2, m3⟩
      · exact ld_glob (X := X.suite a ((a, ob) :: (X.pn ++ pins))) S3 g1 m1 q g2
      · exact ld_blt (X := X.suite a ((a, ob) :: (X.pn ++ pins))) S3 g1 m1 m2 q m3 g2
    refine name (ask.here ?_)
    cases b with
    | false =>
      rw [if_neg Bool.false_ne_true] at w
      exact ih w
    | true =>
      rw [if_pos rfl] at w
      refine codeAny_handlers_suite (HandSPX.lands_againZ land fun h4 fl4 up4 => ?_)
      obtain ⟨o4, f4, e4, z4, d4⟩ := fl4.there
      obtain ⟨nl4, nf4⟩ := away h4 o4 f4 fl4 e4 d4
      have S4 := (Jt h4 fl4 up4).suite e4 d4 na nl4 nf4
      refine wpAny_mono ((su a o4 u o (X.pn ++ pins) z4 ⟨_, d4⟩).run [] _ _ H _ S4 (w a na)) (fun f s6 hf => ?_) fun _ _ z => z.elim
      cases f with
      | ret v => obtain ⟨y, σ6, H6, S6, z⟩ := hf; exact ⟨y, σ6, H6, S6.unsuite ok, z⟩
      | next => obtain ⟨σ6, H6, S6, z⟩ := hf; exact ⟨σ6, H6, S6.unsuite ok, z⟩
      | brk => obtain ⟨σ6, H6, S6, z⟩ := hf; exact ⟨σ6, H6, S6.unsuite ok, z⟩
      | cont => obtain ⟨σ6, H6, S6, z⟩ := hf; exact ⟨σ6, H6, S6.unsuite ok, z⟩
/-- try: body, except x: .. (the told ones), except ..: .. (never asked) -/
theorem ps_try_pre {body : List Stmt} {h0 : ExceptHandler} {hs : List ExceptHandler} {l : List (Value × TSx)} {pos : Pos} {tb : WX → TS} (stk : X.stack = X.env :: X.outer) (fr : X.env.frame = some X.env.locals)
    (hb : ∀ (W : WX) (pn : List (Addr × Obj)) (xe : Value → Shared → Prop), Takes (X.tr pn xe) W → PassesOwn (model X.prog X.w) X.A X.env xe → PSs (X.tr pn xe) body (tb W)) (pf : Pref X (h0 :: hs) l) :
    PS X (.Try body (h0 :: hs) [] [] pos) (fun De σ H => tb (wPre X.K De l) De σ H) := by
  constructor
  intro pins s σ H De I h
  have ok := I.ok
  have frames : X.A.frames = some (X.env :: X.outer) := stk ▸ ok.frames
  let after : Value → Shared → Prop := fun e s1 => wpAny (model X.prog X.w) X.A (noteFrame e X.env)
    (fun _ s2 => wpAny (model X.prog X.w) X.A (setFlight e none)
      (fun _ s3 => wpAny (model X.prog X.w) X.A (handleBy e X.env (h0 :: hs)) (SP X pins De) X.xe s3) X.xe s2) X.xe s1
  have took : Takes (X.tr (X.pn ++ pins) after) (wPre X.K De l) := by
    intro v s' xx
    obtain ⟨a, B, sI, pins', σ', H', u, o, rfl, J', nb, up, sky, na, os, ag, w⟩ := xx
    have J := J'.ofTry ok
    have sky2 : Sky B (X.env :: X.outer) a (Zc u o) X.env.locals s'.heap := stk ▸ sky
    show wpAny (model X.prog X.w) X.A (noteFrame (.ref a) X.env) _ _ _
    refine Sky.land Zc.steady frames fr sky2 fun h3 fl up3 => ?_
    refine ask_pre (B := B) (t := { s' with heap := h3 }) (OL := X.env :: X.outer) ok fl (fun h4 fl4 up4 => J.landed nb fl4.1 ((up.trans up3).trans up4) os ag) (fun h4 ob fs fl4 e d => ?_) na pf w
    have out : a ∉ frs (X.env :: X.outer) := fun hm => by
      obtain ⟨_, o', e', nfd⟩ := fl4.2.2.1.mem hm
      rw [e] at e'
      cases e'
      exact nfd _ d
    refine ⟨fun z => out (List.mem_filterMap.mpr ⟨X.env, List.mem_cons_self, by rw [fr, z]⟩), fun hm => out ?_⟩
    obtain ⟨ev, h5, h6⟩ := List.mem_filterMap.mp hm
    exact List.mem_filterMap.mpr ⟨ev, List.mem_cons_of_mem _ h5, h6⟩
  refine wpAny_Try_except (wpAny_mono ((hb _ _ after took PassesOwn.looking).run [] s σ H De (I.toTry _) h) (fun f s1 hf => ?_) fun _ _ z => z)
  cases f with
  | next => obtain ⟨σ1, H1, J1, z⟩ := hf; exact wpAny_execs_nil ⟨σ1, H1, J1.ofTry ok, z⟩
  | ret v => obtain ⟨y, σ1, H1, J1, z⟩ := hf; exact ⟨y, σ1, H1, J1.ofTry ok, z⟩
  | brk => obtain ⟨σ1, H1, J1, z⟩ := hf; exact ⟨σ1, H1, J1.ofTry ok, z⟩
  | cont => obtain ⟨σ1, H1, J1, z⟩ := hf; exact ⟨σ1, H1, J1.ofTry ok, z⟩
end
end DL

namespace DL
open PySem PySem.Spec PyProof.Rows L2
/-! ### a def that calls what it got, and tells by a word what came -/
/-- the word of an error: the first clause that names its class -/
def chW (K : PySem.W.Frag) : List (Value × Str) → Value → (Str → Prop) → Prop
  | [], _, _ => False
  | p :: r, u, k => ∃ b, PySem.W.exmOne K u p.1 = some b ∧ if b = true then k p.2 else chW K r u k
theorem chW.mono {K : PySem.W.Frag} {u : Value} {k k' : Str → Prop} (h : ∀ z, k z → k' z) : ∀ {l : List (Value × Str)}, chW K l u k → chW K l u k'
  | [], w => w
  | p :: r, ⟨b, e, w⟩ => ⟨b, e, by
      cases b with
      | true => rw [if_pos rfl] at w ⊢; exact h _ w
      | false => rw [if_neg Bool.false_ne_true] at w ⊢; exact chW.mono h w⟩
/-- a clause that stores its word at slot i -/
def wordT (i : Nat) (z : Str) : TSx := fun _ _ _ De σ H => De.nx (σ.set i (some (.str z))) H
theorem wPre_word {K : PySem.W.Frag} {De : Ends} {i : Nat} {u : Value} {o : Option Addr} {σ : L2.St} {H : Hp} : ∀ {l : List (Value × Str)}, chW K l u (fun z => De.nx (σ.set i (some (.str z))) H) → wPre K De (l.map fun p => (p.1, wordT i p.2)) u o σ H
  | [], w => w
  | p :: r, ⟨b, e, w⟩ => ⟨b, e, by
      cases b with
      | true => rw [if_pos rfl] at w ⊢; exact fun _ _ => w
      | false => rw [if_neg Bool.false_ne_true] at w ⊢; exact wPre_word w⟩
/-- the states of a frame have its length -/
theorem Takes.len {X : Cx} {pn : List (Addr × Obj)} {xe : Value → Shared → Prop} {W : WX} (tk : Takes (X.tr pn xe) W) : Takes (X.tr pn xe) fun u o σ H => σ.length = X.N.length → W u o σ H := by
  intro v s' xx
  obtain ⟨a, B, sI, pins', σ', H', u, o, h0, J, h1, h2, h3, h4, h5, h6, w⟩ := xx
  exact tk v s' ⟨a, B, sI, pins', σ', H', u, o, h0, J, h1, h2, h3, h4, h5, h6, w J.len⟩
def TTw (K : PySem.W.Frag) (l : List (Value × Str)) (z0 : Str) : (XK → Hp → VK → Prop) → Hp → VK → Prop := fun tl H Q =>
  tl (fun u _ H' => chW K l u fun z => Q (.str z) H') H fun _ H' => Q (.str z0) H'
section
variable {X : Cx}
theorem pref_word {Y : Cx} {i : Nat} {nf : Str} (nd : Y.N.Nodup) (hi : Y.N[i]? = some nf) (loc : Loc Y.env.scope nf) (hf : Y.fn nf = true ∨ Y.env.scope.names.lookup nf = some .local) {x z : Str} {k : Value} {j : Nat} {q1 q2 q3 q4 q5 : Pos} {hs : List ExceptHandler} {l : List (Value × TSx)} (nm : Names Y x k)
    (sw : ∀ a pins, swapsWith (.Constant (.str z) j q4) (some (.Name nf q3)) q5.line (Y.suite a pins).env = pure false) (r : Pref Y hs l) :
    Pref Y (.ExceptHandler (some (.Name x q1)) none [.Assign [.Name nf q3] (.Constant (.str z) j q4) q5] q2 :: hs) ((k, wordT i z) :: l) := by
  refine .told nm (fun a ob u o pins _ _ => ⟨fun p s σ H De I h => ?_⟩) r
  exact (pss_one (ps_set (X := Y.suite a ((a, ob) :: pins)) (i := i) nd hi loc pe_str (sw a _) hf)).run p s σ H De I h
/-- found = z0; try: a() / except ..; return found -/
theorem word_gives {Ng : List Str} {x a q nf z0 : Str} {sg : Scope} {g : Addr} {cdg : Value} {h0 : ExceptHandler} {hs : List ExceptHandler} {l : List (Value × Str)} {j : Nat} {p1 p2 p3 p4 p5 p6 p7 p8 p9 : Pos}
    (nd : Ng.Nodup) (hi : Ng[1]? = some nf) (loc : Loc sg nf) (vis : Vis sg nf) (h00 : ∀ f : Addr, L2.start Ng [V.ref f] = some (.ref f) :: (L2.start Ng [V.ref f]).tail)
    (d1 : (nf == ("__debug__" : Str)) = false) (d2 : (nf == ("__classdict__" : Str)) = false)
    (pf : ∀ (f : Addr) (s : Shared) (H : Hp), Pref (cxOf C8.CX0 X.prog X.w X.K X.mg X.base Ng x sg g cdg X.A X.stack s H C8.E0).nox (h0 :: hs) (l.map fun p => (p.1, wordT 1 p.2)))
    (sw1 : ∀ (s : Shared) (H : Hp), swapsWith (.Constant (.str z0) j p2) (some (.Name nf p1)) p3.line (cxOf C8.CX0 X.prog X.w X.K X.mg X.base Ng x sg g cdg X.A X.stack s H C8.E0).nox.env = pure false)
    (sw2 : ∀ (s : Shared) (H : Hp), swapsWith (.Call (.Name a p4) [] [] p5) none p6.line (cxOf C8.CX0 X.prog X.w X.K X.mg X.base Ng x sg g cdg X.A X.stack s H C8.E0).nox.env = pure false)
    (hf : sg.names.lookup nf = some .local) :
    LamX.GivesTo X Ng x sg g cdg [.Assign [.Name nf p1] (.Constant (.str z0) j p2) p3, .Try [.Expr (.Call (.Name a p4) [] [] p5) p6] (h0 :: hs) [] [] p7, .Return (some (.Name nf p8)) p9] a q (TTw X.K l z0) := by
  intro f c' s H Q tl act hc h
  have h1len : 1 < Ng.length := (List.getElem?_eq_some_iff.mp hi).1
  refine ⟨_, pss_cons (ps_set (X := (cxOf C8.CX0 X.prog X.w X.K X.mg X.base Ng x sg g cdg X.A X.stack s H C8.E0).nox) (i := 1) nd hi loc pe_str (sw1 s H) (.inr hf))
    (pss_cons (ps_try_pre (X := (cxOf C8.CX0 X.prog X.w X.K X.mg X.base Ng x sg g cdg X.A X.stack s H C8.E0).nox) rfl rfl
      (tb := fun W De σ H => ∃ Ech : XK, (∀ cls d σ' H', Ech cls d H' → σ'.length = Ng.length → W cls d σ' H') ∧ σ[0]? = some (some (.ref f)) ∧ H c' = some (LamX.CodeO c' q) ∧ ∃ Q' : VK, (∀ v H', Q' v H' → De.nx σ H') ∧ tl Ech H Q') (fun W pn xe tk _ => ?_) (pf f s H))
      (pss_one (ps_ret (pe_var (i := 1) hi vis d1 d2)))), ?_⟩
  · refine ⟨fun pins s' σ H De I hh => ?_⟩
    obtain ⟨Ech, hW, h1, h2, Q', hQ', h3⟩ := hh
    have hp := act (fun u o σ H => σ.length = Ng.length → W u o σ H) pn xe Ech p4 p5 (Takes.len tk) (fun cls d σ' H' e l => hW cls d σ' H' e l)
    have hp' : PE _ _ (fun σZ HZ Q => ∃ Q' : VK, (∀ v H', Q' v H' → Q v H') ∧ (σZ[0]? = some (some (.ref f)) ∧ HZ c' = some (LamX.CodeO c' q) ∧ tl Ech HZ Q')) :=
      ⟨fun pins s σ H Q I ⟨Q', m, z⟩ => thn (hp.run pins s σ H Q' I z) fun u s1 ⟨v, H1, I1, r1, q1⟩ => ⟨v, H1, I1, r1, m v H1 q1⟩⟩
    exact (pss_one (ps_expr hp' (sw2 _ _))).run pins s' σ H De I ⟨Q', fun v H' hq => hQ' v H' hq, h1, h2, h3⟩
  · refine ⟨fun u _ H' => chW X.K l u fun z => Q (.str z) H', fun cls d σ' H' e hl => wPre_word (chW.mono (fun z hz => ?_) e), ?_, hc, ?_⟩
    · exact ⟨.str z, by rw [List.getElem?_set_self (by rw [hl]; exact h1len)], hz⟩
    · rw [h00, List.set_cons_succ]; rfl
    · refine ⟨_, fun v H' q => ?_, h⟩
      refine ⟨.str z0, ?_, q⟩
      rw [List.getElem?_set_self]
      unfold L2.start
      simp
      omega
end
end DL

namespace DL
open PySem PySem.Spec PyProof.Rows L2
section
variable {c : Cz} {ρ : Rho} {ω : List Cel} {P : PK} {x a z0 : Str} {g cC PT : Addr} {st : Stmt} {fd : FuncData} {k : Nat} {Ng : List Str} {params : Arguments} {body : Expr} {scope : Scope} {p lpos pos : Pos} {l : List (Value × Str)}
/-- x(lambda: body), x a def of word_gives's kind; the lambda writes no cell -/
theorem ew_word (F : Fun c.X.K x x st g fd) (B : Binds c.X.K fd [a] []) (hg : Gl c.X x) (hm : c.X.mg x = some (.ref g)) (Sg : FnScope Ng [a] (defScope st)) (hNg : Ng[0]? = some a) (hva : Vis (defScope st) a)
    (hG : ∀ cdv, LamX.GivesTo c.X Ng x (defScope st) g cdv (defBody st) a (c.X.env.qual ++ "<lambda>") (TTw c.X.K l z0))
    (TB : LamX.TabB c.X.base c.X.mg cC PT) (hcode : c.X.env.code = .ref cC) (hmT : (PT, c.X.env.qual ++ "<lambda>") ∈ c.T) (hu : ∀ p ∈ c.T, p.1 = PT → p.2 = c.X.env.qual ++ "<lambda>")
    (hk : k + 2 ≤ c.k) (L : LamX.LamS c.X.env.scope scope) (hdef : defaultsOf params c.X.env = ([], []))
    (hbind : ∀ (q : Str) (cl : List (Str × Addr)) (pm cv ctv : Value), bindArgs (PySem.W.kla_fn "<lambda>" q params body scope cl pm cv ctv) ⟨[], []⟩ = pure [])
    (h : ∀ (A : Around) (outer : List Env) (s : Shared) (Hb : Hp) (E : XK) (f c' : Addr), EW ⟨LamX.lamCx c.X A outer s Hb E scope f c', c.T, k, fun u _ _ => chW c.X.K l u fun z => P (.str z) ω⟩ body ρ [] fun _ _ => P (.str z0) ω)
    (hdb : (x == ("__debug__" : Str)) = false := by decide) (hd : (a == ("__debug__" : Str)) = false := by decide) (hcd : (a == ("__classdict__" : Str)) = false := by decide) :
    EW c (.Call (.Name x p) [.Lambda params body scope lpos] [] pos) ρ ω P := by
  intro M G0 H0 G H σ pr S Q kn
  obtain ⟨oc, od, kV, doc, pm, an, cdv, ct, osl, rfl, lk, hcode2⟩ := F.ex
  refine WE.of (LamX.pe_lamcall (T := c.T) (k := k) (t := fun E σ H Q => ∀ (A : Around) (outer : List Env) (s : Shared) (Hb : Hp) (f c' : Addr), Room k (A.deeper (LamX.lamEnv c.X scope s.heap.objs.size f c')) → WE (LamX.lamCx c.X A outer s Hb E scope f c') body σ H Q)
    hg hm F.kp lk hcode2 B Sg hNg hva (hG cdv) TB hcode hmT hu (pr.room.mono hk) L hdef hbind (fun A outer s Hb E f c' hr => ⟨fun pins s' σ H Q I z => z A outer s Hb f c' hr pins s' I⟩) hdb hd hcd) ?_
  refine ⟨S.adv.tab, fun H1 eN t1 => ?_⟩
  have A1 : Adv c.T [] G H G H1 := ⟨Ex.refl _, fun b o e => eN b o (S.gh b o e) (fun ps z => by subst z; exact S.adv.fz b _ e), fun b o e _ n => eN b o e n, fun b n q => absurd n q, t1, S.adv.fz⟩
  have S1 := S.step A1
  intro A outer s Hb f c' hr
  have SL : SI c.X.K c.T [] G H1 G H1 σ ρ [] := ⟨Adv.refl S1.gh t1 S1.adv.fz, S1.len, S1.env, (fun _ z => nomatch z), List.nodup_nil, rfl⟩
  refine h A outer s Hb _ f c' [] G H1 G H1 σ ⟨?_, ?_, rfl, pr.nd, hr⟩ SL _ fun w G' H' d ω' S' e' r q => kn (.str z0) G' H' (.str z0) ω (S1.step S'.adv) e' rfl q
  · exact (takes_of rfl rfl rfl rfl).imp fun u o σ' H' ⟨G', ρ', ω', fs, S', xd, he⟩ => chW.mono (fun z hz => kn (.str z) G' H' (.str z) ω (S1.step S'.adv) S'.adv.gg rfl hz) he
  · exact passes_of (K := fun e s'' => L2.CX c.X.prog c.X.w outer Hb s _ e s'') (E₁ := fun e' s'' => L2.CX c.X.prog c.X.w outer Hb s _ e' s'') rfl
end
end DL

namespace DL
open PySem PySem.Spec PyProof.Rows L2
theorem chW_yes {K : PySem.W.Frag} {p : Value × Str} {r : List (Value × Str)} {u : Value} {k : Str → Prop} (e : PySem.W.exmOne K u p.1 = some true) (h : k p.2) : chW K (p :: r) u k := ⟨true, e, by rw [if_pos rfl]; exact h⟩
theorem chW_no {K : PySem.W.Frag} {p : Value × Str} {r : List (Value × Str)} {u : Value} {k : Str → Prop} (e : PySem.W.exmOne K u p.1 = some false) (h : chW K r u k) : chW K (p :: r) u k := ⟨false, e, by rw [if_neg Bool.false_ne_true]; exact h⟩
/-- the part of a heap that is never written -/
noncomputable def still (H : Hp) : Hp := fun b => open Classical in if ∃ o, H b = some o ∧ Fz o then H b else none
theorem still_some {H : Hp} {b : Addr} {o : HO} (e : still H b = some o) : H b = some o ∧ Fz o := by
  unfold still at e
  split at e
  · rename_i h
    obtain ⟨o', e', f⟩ := h
    rw [e'] at e
    cases e
    exact ⟨e', f⟩
  · cases e
theorem still_of {H : Hp} {b : Addr} {o : HO} (e : H b = some o) (f : Fz o) : still H b = some o := by
  unfold still
  rw [if_pos ⟨o, e, f⟩]; exact e
theorem still_sqL {K : PySem.W.Frag} {H : Hp} {a : Addr} {xs : List V} (h : SqL K H a xs) : SqL K (still H) a xs := by
  rcases h with (h | ⟨o, h⟩) | h
  · exact .inl (.inl (still_of h True.intro))
  · exact .inl (.inr ⟨o, still_of h True.intro⟩)
  · exact .inr h
theorem law_startT {K : PySem.W.Frag} {T : List (Addr × Str)} {H : Hp} {a : Addr} {ns : List Int} {F : PSpec} (hT : ∀ p ∈ T, H p.1 = some (.tbl #[])) (hS : SqL K H a (ns.map V.int)) (h : ∀ (QQ : D → Prop) (EE : Value → List (Str × D) → Prop), QQ (.bl true) → F [.lk ns] QQ EE) :
    toSp K T (pureF F) [.ref a] H (fun v _ => v = .bl true) fun _ _ _ => False := by
  have h0 : Ex (still H) H := fun b o e => (still_some e).1
  have h1 : ∀ b o, still H b = some o → Fz o := fun b o e => (still_some e).2
  have h2 : LamX.Tabs T H := fun p hp => LamX.TabS.nil (hT p hp)
  have h3 : RS K (still H) [D.lk ns] [V.ref a] := ⟨.ref a, [], rfl, ⟨a, rfl, still_sqL hS⟩, rfl⟩
  have h4 : Cells K (still H) H [] := fun p hp => nomatch hp
  exact ⟨still H, [.lk ns], [], fun d _ _ => d = .bl true, fun _ _ _ => False, h0, h1, h2, h3, h4, List.nodup_nil, ⟨rfl, h _ _ rfl⟩, fun w G' H' d os' nw _ r _ _ _ _ e => by subst e; exact r, fun _ _ _ _ _ _ _ _ _ _ _ z => z⟩
end DL

namespace DL
open PySem PySem.Spec PyProof.Rows L2
/-- the tables of all defs of the text are empty -/
def Owns (q : Program) (K : PySem.W.Frag) (mg : Str → Option Value) (h : Heap) : Prop := ∀ (nm : Str) (fb : Addr), mg nm = some (.ref fb) → ((recsOf q).any fun e => e.name == nm) = true → LamX.OwnTab K fb h
/-- the end of a law whose defs make lambdas -/
theorem walk_all {l : PySem.W.OpenLaw} {n k : Nat} {q : Program} {loose : List Str} {XP : (Str → Option Value) → Heap → Prop} {YP : World → Heap → Prop} {d : DefRec} {K : Params → PySem.W.Frag} {CX : World → CXT} {x : Str}
    (h1 : l.most = some n) (h2 : n ≤ sizeLine) (h3 : d.params.defaults = []) (room : Room k callerA) (hY : ∀ (w : World) (h : Heap), YP w h → (K w.params).In h)
    (F : ∀ (w : World) (mg : Str → Option Value) (fa : Addr) (h : Heap), (K w.params).In h → h.Ns mainGlobals mg → mg d.name = some (.ref fa) → Owns q (K w.params) mg h → LamX.LawAtS l w (K w.params) (CX w) k n x mg fa h)
    (hCX : ∀ (w : World) (H : Hp) (s : Shared) (e : Value) (s' : Shared), CX w [] H s (fun _ _ _ => False) e s' → False) : PySem.W.WalkO q loose XP YP l.row.toRowW d [] (fun f vs => PySem.call f vs) := by
  refine Att.attach_callB h1 h3 fun w sA sB mg mb fa o pm cd doc a vs ns G Y ho hd hcd hmg hobj hints hlen hbits hg => ?_
  have KX := hY w _ Y
  have own : Owns q (K w.params) mg sB.heap := by
    intro nm fb hm hr c P o1 fd1 e dd vs1 sl k1 k2 k3 k4 k5
    obtain ⟨r, hr1, hr2⟩ := List.any_eq_true.mp hr
    have en : r.name = nm := by simpa using hr2
    obtain ⟨a', o', fd', c', P', g1, g2, g3, g4, g5, ⟨⟨oc, vc, e1, e2, e3, e4⟩, hP⟩⟩ := G.T.tab r hr1
    subst en
    have ea : a' = fb := by rw [hm] at g1; cases g1; rfl
    subst ea
    have eo : o1 = o' := Option.some.inj ((KX _ _ k1).symm.trans g2)
    subst eo
    have ef : fd1 = fd' := by rw [k2] at g3; cases g3; rfl
    subst ef
    have ec : c = c' := by rw [k3] at g4; cases g4; rfl
    subst ec
    have ev := Option.some.inj ((KX _ _ k4).symm.trans e1)
    subst ev
    have ew : vs1 = vc := by cases e3; rfl
    subst ew
    have eP : P = P' := by rw [k5] at e4; cases e4; rfl
    subst eP
    exact hP
  obtain ⟨fd, cs, sp, hT, nT, C, hb, hsp, hF⟩ := F w mg fa _ KX G.T.g hmg own
  exact LamX.law_callTs KX G.T.g G.T.b G.T.builtins G.T.nolimit hg hT nT C G.T.bmain hobj hints (Nat.le_trans hlen h2) room hF hb (fun H hH hS => hsp H a ns hlen hbits hH hS) fun H e s' => hCX w H sB e s'
end DL

namespace DL
open PySem PySem.Spec PyProof.Rows L2
/-! ### exceptions as values -/
/-- an exception of the class at C, without a dict -/
def excD (C : Addr) : D := .obj (GP.at (ExO (.ref C)))
/-- an exception of the class at C, its dict holds fs -/
def exfD (C : Addr) (fs : List (Str × V)) : D := .obj ⟨fun G w => ∃ a d, w = .ref a ∧ G a = some (exo a C (some d)) ∧ G d = some (exd d fs), fun e ⟨a, d, h1, h2, h3⟩ => ⟨a, d, h1, e _ _ h2, e _ _ h3⟩⟩
section
variable {c : Cz} {ρ : Rho} {ω : List Cel} {P : PK} {W : PD} {pos p : Pos} {x : Str} {e a b : Expr} {es : List Expr} {d : D}
theorem SI.layX {K : PySem.W.Frag} {T : List (Addr × Str)} {M : List Addr} {G0 H0 G H : Hp} {σ : L2.St} (S : SI K T M G0 H0 G H σ ρ ω) {p : Addr} {o : HO} (np : H p = none) (fo : Fz o) :
    SI K T M G0 H0 (upd G p o) (upd H p o) σ ρ ω ∧ Ex G (upd G p o) := by
  have A : Adv T [] G H (upd G p o) (upd H p o) := Adv.lay S.gh S.adv.tab S.adv.fz np fo
  exact ⟨S.step A, A.gg⟩
/-- X(e): an error of the text without an __init__ of its own -/
theorem ew_exc {C : Addr} (E : ExC c.X.K c.X.mg x C) (hg : Gl c.X x) (h : EW c e ρ ω fun _ ω1 => P (excD C) ω1) (hs : starEach [e] c.X.env = (false, eval e c.X.env) :: starEach [] c.X.env := by rfl) (hdb : (x == ("__debug__" : Str)) = false := by decide) :
    EW c (.Call (.Name x p) [e] [] pos) ρ ω P := by
  intro M G0 H0 G H σ pr S Q k
  refine WE.of (pe_exc1 F.excBase_ValueError E.q E.g E.k hg WE.pe hs hdb) ?_
  refine h M G0 H0 G H σ pr S _ fun w G1 H1 d ω1 S1 e1 r1 q a na => ?_
  obtain ⟨S2, e2⟩ := S1.layX (o := ExO (.ref C) a) na True.intro
  exact k _ _ _ (excD C) ω1 S2 (e1.trans e2) ⟨a, rfl, upd_same⟩ q
end
/-! ### isinstance of such -/
section
open PySem.W
variable {prog : Program} {w : World} {A : Around} {E : Value → Shared → Prop} {s : Shared} {K : Frag} {x D : Addr} {ox : Obj} {Q2 : Option Value → Shared → Prop}
theorem findObj_dataS {C : Addr} {od : Obj} {name : Str} {a g : Value} (hc : (clsIn K C).isSome = true) (ha : findIn K (.ref C) name = some (some a)) (hg : specialIn K a "__get__" = some (some g)) (ht : takesIn K a = some true) : findObj K C (some od) name = some (.bind g a) := by
  obtain ⟨cd, hc⟩ := Option.isSome_iff_exists.mp hc
  unfold findObj
  rw [hc, Option.bind_some, ha, Option.bind_some]
  simp [hg, ht]
/-- e.__class__ of an exception e, with a dict or without one -/
theorem exc_class {od : Option Obj} (ga : findIn K (.ref D) "__getattribute__" = some (some (.builtin "BaseException.__getattribute__"))) (gg : findIn K (.ref D) "__getattr__" = some none) (sub : subIn K (.ref D) (.type "BaseException") = some true)
    (hf : findObj K D od "__class__" = some (.bind (.builtin "getset_descriptor.__get__") (.builtin "object.__class__"))) (hm : mroIn K D (.type "object") = some true) (X : K.In s.heap) (I : InstAt s.heap x ox D od) (h : Q2 (some (.ref D)) { s with toks := s.toks + 1 }) :
    wpAny (model prog w) A (getAttr? (.ref x) "__class__") Q2 E s := by
  obtain ⟨hp, g, d, t, os⟩ := s
  have tyL := I.type (M := model prog w)
  have gaL := looks_findIn (M := model prog w) X ga
  have ggL := looks_findIn (M := model prog w) X gg
  have fL := looks_find (M := model prog w) X I hf
  have subL : Looks (model prog w) hp (isInstance (.ref x) (.type "BaseException")) true := tyL.andThen (looks_subIn X sub)
  unfold getAttr? getAttrBy? getAttrBy
  refine wpAny_bind (wpAny_mkText (wpAny_bind (wpAny_attempt (wpAny_holding (wpAny_bind (tyL.at (wpAny_bind (gaL.at ?_))))))))
  have n1 : (Value.builtin "BaseException.__getattribute__" == Value.builtin "object.__getattribute__") = false := by decide +kernel
  show wpAny _ _ (if (onTheHeap (Value.ref D) && (Value.builtin "BaseException.__getattribute__" == Value.builtin "object.__getattribute__")) = true then _ else _) _ _ _
  rw [n1, Bool.and_false, if_neg Bool.false_ne_true]
  unfold getAttrByItsOwn hookBefore
  refine wpAny_bind ?_
  rw [if_pos (show onTheHeap (Value.ref D) = true from rfl)]
  refine ggL.at (wpAny_bind (wpAny_attempt (wpAny_holding ?_)))
  unfold callGetattribute
  have n2 : (false && onTheHeap (Value.builtin "BaseException.__getattribute__")) = false := rfl
  rw [n2, if_neg Bool.false_ne_true]
  unfold boundAndCalled
  rw [PySem.F.excAttr_ValueError.ga.bind (.ref x)]
  refine wpAny_bind (wpAny_pure ?_)
  show wpAny _ _ (call (.builtin "BaseException.__getattribute__") [.ref x, .str "__class__" t]) _ _ _
  refine wpAny_call (codeAny_call_builtin PySem.F.excAttr_ValueError.ga.plain PySem.F.entry_bexc_ga
    (@check_slot (model prog w) _ _ ⟨hp, g, d, t + 1, os⟩ "BaseException.__getattribute__" "BaseException" "__getattribute__" (.ref x) [.str "__class__" t] [] _ (by decide +kernel) (by decide +kernel) subL (PySem.F.args_bexc_ga (.ref x) (.str "__class__" t)) ?_))
  unfold Builtin.«object.__getattribute__»
  refine wpAny_bind (wpAny_of_eq (a := ((Value.ref x : Value), [Value.str "__class__" t])) (by first | rfl | (simp only [slotArgs]; rfl)) (wpAny_bind (wpAny_pure (wpAny_bind (tyL.at (wpAny_bind (fL.at ?_)))))))
  show wpAny _ _ (holding [Value.builtin "object.__class__"] (call (.builtin "getset_descriptor.__get__") [.builtin "object.__class__", .ref x, .ref D]) >>= ret) _ _ _
  refine wpAny_bind (wpAny_holding (wpAny_call (class_get (s := ⟨hp, g, d, t + 1, os⟩) (ox := ox) (od := od) X I hm (wpAny_pure ?_))))
  show wpAny _ _ (handedOut (.ref D)) _ _ _
  rw [handedOut_of (v := .ref D) rfl]
  first
    | exact wpAny_pure (wpAny_pure h)
    | exact wpAny_pure h
    | exact wpAny_pure (wpAny_bind (wpAny_pure (wpAny_pure h)))
theorem kitx_excO {od : Option Obj} (ga : findIn K (.ref D) "__getattribute__" = some (some (.builtin "BaseException.__getattribute__"))) (gg : findIn K (.ref D) "__getattr__" = some none) (sub : subIn K (.ref D) (.type "BaseException") = some true) (hd : hasDictIn K D = true)
    (hf : findObj K D od "__class__" = some (.bind (.builtin "getset_descriptor.__get__") (.builtin "object.__class__"))) (hm : mroIn K D (.type "object") = some true) : KitX K (.ref x) (.ref D) (fun h => InstAt h x ox D od) where
  ty := fun _ _ _ I => I.type
  it := fun _ _ X _ => by
    obtain ⟨cd, hc, _⟩ := any_some hd
    unfold clsIn at hc
    split at hc
    · rename_i ho
      exact fun {A' Q' E' s'} k q => by
        unfold isType loadHead
        exact wpAny_bind (wpAny_loadPart (k _ _ (X _ _ ho)) (wpAny_pure q))
    · cases hc
  ne := fun h tp dd its n sl X htp => by
    obtain ⟨cd, hc, _⟩ := any_some hd
    refine Bool.eq_false_iff.mpr fun q => ?_
    have e : D = tp := Value.ref.inj (beq_iff_eq.mp q)
    subst e
    unfold clsIn at hc
    split at hc
    · rename_i ho
      cases (X _ _ ho).symm.trans htp
    · cases hc
  ca := fun X I k => exc_class ga gg sub hf hm X I k
end
section
variable {c : Cz} {ρ : Rho} {ω : List Cel} {P : PK}
theorem call_isX {X : Cx} {D0 : Addr} (C : L2.ExcC X.K D0) : CallR X (.builtin "isinstance") (fun vs H Q => ∃ (a : Addr) (u : Value) (b : Bool) (v : V), vs = [.ref a, v] ∧ ClsV v u ∧ ((H a = some (ExO (.ref D0) a)) ∨ ∃ d fs, H a = some (exo a D0 (some d)) ∧ H d = some (exd d fs)) ∧ PySem.W.kitOne X.K (.ref D0) u = some b ∧ Q (.bl b) H) := by
  intro pins s σ H xs us Q I r h
  obtain ⟨a, u, b, v, rfl, k, ho, e, q⟩ := h
  obtain ⟨u1, u2, rfl, r1, r2⟩ := vals2 r
  have e2 := k.eq r2
  subst e2
  cases r1
  have cl : (PySem.W.clsIn X.K D0).isSome = true := by obtain ⟨cd, hc, _⟩ := PySem.W.any_some C.hd; rw [hc]; rfl
  rcases ho with ho | ⟨d, fs, ho, hd⟩
  · obtain ⟨⟨oe, vs, g1, g2, g3, _⟩, _, _⟩ := I.hok a _ ho
    have J : PySem.W.InstAt s.heap a oe D0 none := ⟨g1, g2.1, by unfold PySem.W.notCls; rw [g3] <;> rfl, by rw [g2.2]; trivial⟩
    exact PySem.W.kia_one (kitx_excO C.hg C.hk C.hs C.hd (PySem.W.findObj_dataN cl C.ha C.hn C.ht) C.hm) I.kIn J e (fun z => nomatch z) fun tk => ⟨.bl b, H, I.tok tk, rfl, q⟩
  · obtain ⟨t1, g1⟩ := exo_at I.hok ho
    obtain ⟨mA, hns, _⟩ := exd_at I.hok hd
    obtain ⟨od, hod, _⟩ := lookIn_ns hns
    have J : PySem.W.InstAt s.heap a _ D0 (some od) := ⟨g1, rfl, rfl, hod⟩
    exact PySem.W.kia_one (kitx_excO C.hg C.hk C.hs C.hd (findObj_dataS cl C.ha C.hn C.ht) C.hm) I.kIn J e (fun z => nomatch z) fun tk => ⟨.bl b, H, I.tok tk, rfl, q⟩
/-- what an exception is told by -/
def isExc (D0 : Addr) (d : D) : Prop := d = excD D0 ∨ ∃ fs, d = exfD D0 fs
theorem co_isX {D0 : Addr} {d : D} {v : V} {u : Value} {b : Bool} (C : L2.ExcC c.X.K D0) (hd : isExc D0 d) (k : ClsV v u) (e : PySem.W.kitOne c.X.K (.ref D0) u = some b) (q : P (.bl b) ω) : CO c (.builtin "isinstance") ρ [d, .v v] ω P := by
  intro M G0 H0 G H σ vs pr S r Q kn
  obtain ⟨w, t, rfl, r1, w2, t2, rfl, r2, e2⟩ := r
  cases e2; cases r2
  have g := kn _ G H (.bl b) ω S (Ex.refl G) rfl q
  rcases hd with rfl | ⟨fs, rfl⟩
  · obtain ⟨a, rfl, ha⟩ := r1
    exact WC.of (call_isX C) ⟨a, u, b, _, rfl, k, .inl (S.gh _ _ ha), e, g⟩
  · obtain ⟨a, d, rfl, ha, hd⟩ := r1
    exact WC.of (call_isX C) ⟨a, u, b, _, rfl, k, .inr ⟨d, fs, S.gh _ _ ha, S.gh _ _ hd⟩, e, g⟩
end
/-! ### an error class with an __init__ of its own -/
theorem cx_false {P : Program} {w : World} {outer : List Env} {H : Hp} {s s' : Shared} {e : Value} (h : L2.CX P w outer H s (fun _ _ _ => False) e s') : False := by
  obtain ⟨_, _, _, _, _, _, _, _, _, _, _, _, z⟩ := h
  exact z
/-- what a class must have for B.__init__ to be ValueError's -/
structure VeB (K : PySem.W.Frag) (B : Addr) : Prop where
  rd : PySem.W.readsIn K B (.type "type") = true
  ga : PySem.W.specialIn K (.ref B) "__getattribute__" = some (some (.builtin "type.__getattribute__"))
  at_ : PySem.W.findCls K (.ref B) (.type "type") "__init__" = some (.val (.builtin "ValueError.__init__"))
section
variable {X : Cx} {e : Expr} {es : List Expr} {ta : TA} {p p1 p2 pos : Pos} {x : Str} {B C : Addr}
/-- B.__init__(self, ..), B a class over ValueError -/
theorem pe_ownInit {pl : Sem Bool} (hg : Gl X x) (hm : X.mg x = some (.ref B)) (vb : VeB X.K B) (ha : PA X (e :: es) ta) (hdb : (x == ("__debug__" : Str)) = false := by decide)
    (hc : eval (.Call (.Attribute (.Name x p1) "__init__" p2) (e :: es) [] pos) X.env = (do
      let ov ← eval (.Name x p1) X.env
      standAt p2.atName
      let (f, first) ← holding [ov] (getMethod ov "__init__" pl)
      callWith pos f first (backTo pos (starEach (e :: es) X.env)) (backToKw pos (keywordEach [] X.env))) := by rfl)
    (he : starEach (e :: es) X.env = (false, eval e X.env) :: starEach es X.env := by rfl) (hpl : (backTo pos (starEach es X.env)).any (·.1) = false := by rfl) :
    PE X (.Call (.Attribute (.Name x p1) "__init__" p2) (e :: es) [] pos) (tVeI X.K ta) := by
  refine ⟨fun pins s σ H Q I h => ?_⟩
  refine PySem.W.methodCall_KW (ld_glob I hg hm ?_ hdb) hc
  refine PySem.W.method_cls I.kIn vb.ga (PySem.W.cls_value I.kIn vb.rd vb.at_ (by decide +kernel) ?_)
  show wpAny _ _ (callWith pos (Value.builtin "ValueError.__init__") [] (backTo pos (starEach (e :: es) X.env)) []) _ _ _
  refine PyProof.Rows.callWith_method1 (thn (ha.run pos pins _ σ H _ (I.tok _) h) fun us s1 ⟨vs, H1, I1, r1, a, C, ws, ev, hl, T, ea, q⟩ => ?_) he hpl
  subst ev
  cases r1 with
  | @cons _ u0 _ ur ra rr =>
    obtain rfl : u0 = Value.ref a := ra
    exact oinit_ok T I1 ea (by rw [← Paired.length rr, sizeLine_eq]; omega) fun s' J => ⟨.non, H1, J, rfl, q⟩
/-- C(e, ..) as a value -/
theorem pe_oexV {CX : CXT} {fI : Addr} {k : Nat} {fd : FuncData} {ps : List Str} {sp : Sp} (T : OexC X.K C) (iC : PySem.W.findIn X.K (.ref C) "__init__" = some (some (.ref fI))) (tI : PySem.W.typeIn X.K (.ref fI) = some (.type "function"))
    (F1 : FnOk X.prog X.w X.K X.mg X.base CX k fI fd ps sp) (hr : Room (k + 1) X.A) (hb : Binds X.K fd ps []) (hx : Passes CX X (fun _ _ _ => False)) (hg : Gl X x) (hm : X.mg x = some (.ref C)) (ha : PA X (e :: es) ta)
    (hdb : (x == ("__debug__" : Str)) = false := by decide) (he : starEach (e :: es) X.env = (false, eval e X.env) :: starEach es X.env := by rfl) (hpl : (backTo pos (starEach es X.env)).any (·.1) = false := by rfl) :
    PE X (.Call (.Name x p) (e :: es) [] pos) (fun σ H Q => ta σ H fun vs H1 => vs.length ≤ 1000 ∧ ∀ a, H1 a = none → sp (.ref a :: vs) (upd H1 a (exo a C none)) (fun v H2 => v = .non ∧ Q (.ref a) H2) (fun _ _ _ => False)) := by
  refine ⟨fun pins s σ H Q I h => ?_⟩
  obtain ⟨nm, q, N, bs, bm, sn, sub, ab, col, dd, k0, k1, k2, k3, k5, hC, hbm⟩ := T.cls
  refine wpAny_Call_Name_kw (ld_glob I hg hm ?_ hdb)
  refine PySem.W.callWith_K (h₀ := X.base) I.ok.mod.kin T.kC (thn (ha.run pos pins s σ H _ I h) fun us s1 ⟨vs, H1, I1, r1, hz, q1⟩ => ⟨I1.kIn, ?_⟩) he hpl
  show wpAny _ _ (call (.ref C) us) _ _ _
  obtain ⟨hp, g, dr, tk, os⟩ := s1
  have hsz : hp.objs.size ≤ hp.objs.size + 1 := Nat.le_succ _
  have hn : H1 (hp.objs.size + 1) = none := I1.hok.fresh hsz
  have hq := q1 (hp.objs.size + 1) hn
  have hget : ((hp.push (PySem.W.kdv_tup us)).push (PySem.HandSPX.excO C hp.objs.size)).get? (hp.objs.size + 1) = some (PySem.HandSPX.excO C hp.objs.size) := by heap_get
  have I2 : Inv X pins σ (upd H1 (hp.objs.size + 1) (exo (hp.objs.size + 1) C none)) ⟨(hp.push (PySem.W.kdv_tup us)).push (PySem.HandSPX.excO C hp.objs.size), g, dr, tk, os⟩ :=
    I1.laid (t' := tk) (fun b o e => Heap.get?_push_of_some _ (Heap.get?_push_of_some _ e)) hsz (exo_ok hget)
  have r2 : Vals (V.ref (hp.objs.size + 1) :: vs) (Value.ref (hp.objs.size + 1) :: us) := .cons rfl r1
  have hl : (Value.ref (hp.objs.size + 1) :: us).length = ps.length := by rw [← F1.len _ _ _ _ hq, ← r2.length]
  have b := hb ⟨(hp.push (PySem.W.kdv_tup us)).push (PySem.HandSPX.excO C hp.objs.size), g, dr, tk, os⟩ (Value.ref (hp.objs.size + 1) :: us) I2.kIn (by rw [List.append_nil]; exact hl)
  rw [List.append_nil] at b
  refine wpAny_call (PySem.HandSPX.call_own F.excBase_ValueError (fun Y => PySem.HandSPX.refsVE_contains Y bm hbm) (I1.kIn _ _ hC) (PySem.W.looks_findIn I1.kIn iC) (fun self => PySem.W.bind_fn I1.kIn self tI) (by rw [← Paired.length r1, sizeLine_eq]; omega)
    (codeAny_mono (F1.run _ X.stack _ _ ⟨Value.ref (hp.objs.size + 1) :: us, []⟩ (Value.ref (hp.objs.size + 1) :: us) _ _ (fun _ _ _ => False) (hr.make C us []) (I2.env0.make C us []) b r2 hq) fun r s' hq' => ?_))
  cases r with
  | error er => exact hx pins σ _ _ er s' I2 hq'
  | ok fl =>
    cases fl with
    | ret u =>
      obtain ⟨v, H3, J, rv, ev, q3⟩ := I2.after hq'
      subst ev
      exact ⟨rv, .ref _, H3, J, rfl, q3⟩
    | next => exact False.elim hq'
    | brk => exact False.elim hq'
    | cont => exact False.elim hq'
end
/-- the promise of an __init__ that sets one field of a new exception -/
def initSp (C : Addr) (f : Str) : Sp := fun vs H Q _ => ∃ (a : Addr) (v : V), vs = [.ref a, v] ∧ H a = some (exo a C none) ∧ ∀ dx, H dx = none → dx ≠ a → Q .non (upd (upd H dx (exd dx [(f, v)])) a (exo a C (some dx)))
/-- such a class -/
structure ExI (K : PySem.W.Frag) (mg : Str → Option Value) (x : Str) (C fI : Addr) : Prop where
  g : mg x = some (.ref C)
  o : OexC K C
  i : PySem.W.findIn K (.ref C) "__init__" = some (some (.ref fI))
  t : PySem.W.typeIn K (.ref fI) = some (.type "function")
section
variable {c : Cz} {ρ : Rho} {ω : List Cel} {P : PK} {W : PD} {pos p : Pos} {x f : Str} {e : Expr} {i : Int} {C fI : Addr} {fd : FuncData} {ps : List Str} {k : Nat}
/-- X(e) as a value -/
theorem ew_exi (E : ExI c.X.K c.X.mg x C fI) (F1 : FnOk c.X.prog c.X.w c.X.K c.X.mg c.X.base (L2.CX c.X.prog c.X.w) k fI fd ps (initSp C f)) (hb : Binds c.X.K fd ps []) (hk : k + 1 ≤ c.k) (hg : Gl c.X x) (h : EW c e ρ ω fun d ω1 => ∃ i, d = .int i ∧ P (exfD C [(f, .int i)]) ω1)
    (hs : starEach [e] c.X.env = (false, eval e c.X.env) :: starEach [] c.X.env := by rfl) (hdb : (x == ("__debug__" : Str)) = false := by decide) (hpl : (backTo pos (starEach [] c.X.env)).any (·.1) = false := by rfl) : EW c (.Call (.Name x p) [e] [] pos) ρ ω P := by
  intro M G0 H0 G H σ pr S Q kn
  refine WE.of (pe_oexV E.o E.i E.t F1 (pr.room.mono hk) hb (fun pins σ H s e s' I h => (cx_false h).elim) hg E.g (pa_cons WE.pe pa_nil hs) hdb hs hpl) ?_
  refine h M G0 H0 G H σ pr S _ fun w G1 H1 d ω1 S1 e1 r1 ⟨i, ed, q⟩ => ?_
  subst ed
  cases r1
  refine ⟨by simp, fun a na => ⟨a, .int i, rfl, upd_same, fun dx nd ne => ⟨rfl, ?_⟩⟩⟩
  have nd1 : H1 dx = none := by rw [upd_ne ne] at nd; exact nd
  have eH : upd (upd (upd H1 a (exo a C none)) dx (exd dx [(f, .int i)])) a (exo a C (some dx)) = upd (upd H1 dx (exd dx [(f, .int i)])) a (exo a C (some dx)) := by
    funext b
    by_cases hb : b = a
    · rw [hb, upd_same, upd_same]
    · rw [upd_ne hb, upd_ne hb]
      by_cases hd : b = dx
      · rw [hd, upd_same, upd_same]
      · rw [upd_ne hd, upd_ne hd, upd_ne hb]
  rw [eH]
  obtain ⟨S2, e2⟩ := S1.layX (o := exd dx [(f, .int i)]) nd1 True.intro
  obtain ⟨S3, e3⟩ := S2.layX (p := a) (o := exo a C (some dx)) (by rw [upd_ne ne.symm]; exact na) True.intro
  exact kn _ _ _ (exfD C [(f, .int i)]) ω1 S3 (e1.trans (e2.trans e3)) ⟨a, dx, rfl, upd_same, by rw [upd_ne ne]; exact upd_same⟩ q
/-- raise X(e) -/
theorem s1_raiseI {m : Str} {p' : Pos} (E : ExI c.X.K c.X.mg x C fI) (F1 : FnOk c.X.prog c.X.w c.X.K c.X.mg c.X.base (L2.CX c.X.prog c.X.w) k fI fd ps (initSp C f)) (hb : Binds c.X.K fd ps []) (hk : k + 1 ≤ c.k) (hg : Gl c.X x) (h : EW c e ρ ω fun d ω1 => ∃ i, d = .int i ∧ c.ex (.ref C) [(f, .int i)] ω1)
    (hs : starEach [e] c.X.env = (false, eval e c.X.env) :: starEach [] c.X.env := by rfl) (hdb : (x == ("__debug__" : Str)) = false := by decide) (hpl : (backTo pos (starEach [] c.X.env)).any (·.1) = false := by rfl) :
    SW1 c (.Raise (some (.Call (.Name x p) [e] [] pos)) none p') ρ ω W := by
  intro M G0 H0 G H σ pr S De kn
  refine WS1.of (ps_raise pr.calm pr.tk (pmk_oex (ds := []) (dvs := []) E.o E.i E.t F1 (pr.room.mono hk) hb .nil (fun pins σ H s e s' I h => (cx_false h).elim) hg E.g (pa_cons WE.pe pa_nil hs) hdb hs hpl)) ?_
  refine h M G0 H0 G H σ pr S _ fun w G1 H1 d ω1 S1 e1 r1 ⟨i, ed, q⟩ => ?_
  subst ed
  cases r1
  refine ⟨by simp, fun a na => ⟨a, .int i, rfl, upd_same, fun dx nd ne => ⟨rfl, dx, _, upd_same, by rw [upd_ne ne]; exact upd_same, ?_, ?_⟩⟩⟩
  · rw [upd_ne ne] at nd; exact nd
  · have nd1 : H1 dx = none := by rw [upd_ne ne] at nd; exact nd
    have eH : upd (del (upd (upd (upd H1 a (exo a C none)) dx (exd dx [(f, .int i)])) a (exo a C (some dx))) a) dx (.xd [(f, .int i)]) = upd H1 dx (.xd [(f, .int i)]) := by
      funext b
      by_cases hd : b = dx
      · rw [hd, upd_same, upd_same]
      · rw [upd_ne hd, upd_ne hd]
        by_cases hb : b = a
        · rw [hb, del_same, na]
        · rw [del_ne hb, upd_ne hb, upd_ne hd, upd_ne hb]
    rw [eH]
    obtain ⟨S2, e2⟩ := S1.layX (o := .xd [(f, .int i)]) nd1 True.intro
    exact ⟨_, ρ, ω1, [(f, .int i)], S2, .inr ⟨dx, [(f, .int i)], rfl, upd_same, rfl, ⟨.int i, [], rfl, rfl, rfl⟩⟩, q⟩
/-- e.f of such a value -/
theorem ew_exf {fs : List (Str × V)} {v : V} (T : L2.XfC c.X.K C) (hno : PySem.W.findIn c.X.K (.ref C) f = some none) (hl : fs.lookup f = some v) (hr : R c.X.K (fun _ => none) d v) (h : EW c e ρ ω fun x ω1 => x = exfD C fs ∧ P d ω1) (hb : attributeBase e f c.X.env (eval e c.X.env) = eval e c.X.env := by rfl) : EW c (.Attribute e f pos) ρ ω P := by
  intro M G0 H0 G H σ pr S Q kn pins s I
  refine attr_of hb (thn (h M G0 H0 G H σ pr S (fun x H1 => ∃ a dd, x = .ref a ∧ H1 a = some (exo a C (some dd)) ∧ H1 dd = some (exd dd fs) ∧ Q v H1) (fun w G1 H1 x ω1 S1 e1 r1 ⟨ex, q⟩ => ?_) pins s I) fun u s1 hh => ?_)
  · subst ex
    obtain ⟨a, dd, rfl, h1, h2⟩ := r1
    exact ⟨a, dd, rfl, S1.gh _ _ h1, S1.gh _ _ h2, kn v G1 H1 d ω1 S1 e1 (hr.mono fun _ _ z => by cases z) q⟩
  · obtain ⟨x, H1, I1, rx, a, dd, ex, ha, hd, q⟩ := hh
    subst ex
    obtain rfl : u = Value.ref a := rx
    obtain ⟨t1, ho⟩ := exo_at I1.hok ha
    obtain ⟨mA, hns, rel⟩ := exd_at I1.hok hd
    obtain ⟨od, hod, hlk⟩ := lookIn_ns hns
    obtain ⟨u, hu, ru⟩ := RelO.some_of (v := v) (o := mA f) (by rw [← hl]; exact rel f)
    have J : PySem.W.InstAt s1.heap a _ C (some od) := ⟨ho, rfl, rfl, hod⟩
    exact HandSPX.exc_get I1.kIn J T.ga T.gg T.exC (PySem.W.findObj_own T.hdC hno rfl (by rw [hlk, hu])) (handed_of ru) ⟨v, H1, I1.tok _, ru, q⟩
end
/-- a def, by HandS's readings -/
theorem fn_raw {Pg : Program} {w : World} {K : PySem.W.Frag} {mg : Str → Option Value} {base : Heap} {x qual : Str} {st : Stmt} {f : Addr} {fd : FuncData} {N ps : List Str} {k : Nat} {sp : Sp} (Fn : Fun K x qual st f fd) (S : FnScope N ps (defScope st)) (len : ∀ vs H Q E, sp vs H Q E → vs.length = ps.length)
    (hbody : ∀ (cdv : Value) (A : Around) (outer : List Env) (s : Shared) (H : Hp) (vs : List V) (Q : VK) (E : XK), Room k (A.deeper (envOfC qual (defScope st) s.heap.objs.size f cdv)) → sp vs H Q E →
      ∃ t, PSs (cxB Pg w K mg base N qual (defScope st) f cdv A outer s H E) (defBody st) t ∧ t { nx := fun _ H' => Q .non H', rt := Q } (L2.start N vs) H) : FnOk Pg w K mg base (L2.CX Pg w) (k + 1) f fd ps sp := by
  obtain ⟨oc, od, kV, doc, pm, an, cdv, ct, osl, rfl, lk, hcd⟩ := Fn.ex
  exact fn_of lk hcd S len fun A outer s H vs Q E hr h => hbody cdv A outer s H vs Q E hr h
/-! ### the facts of error classes, by one look each -/
theorem bb_ValueError : bootBuiltins "ValueError" = some (.type "ValueError") := by decide +kernel
theorem bb_KeyError : bootBuiltins "KeyError" = some (.type "KeyError") := by decide +kernel
theorem bb_TypeError : bootBuiltins "TypeError" = some (.type "TypeError") := by decide +kernel
theorem kit_ref {K : PySem.W.Frag} {A C : Addr} {b : Bool} (hc : PySem.W.isClsIn K C = true) (ht : PySem.W.typeIn K (.ref C) = some (.type "type")) (hne : (A == C) = false) (hs : PySem.W.subIn K (.ref A) (.ref C) = some b) : PySem.W.kitOne K (.ref A) (.ref C) = some b := by
  have h1 : ¬ (Value.ref A == Value.ref C) = true := fun z => by
    have e := Value.ref.inj (beq_iff_eq.mp z)
    subst e
    simp at hne
  have h2 : ((PySem.W.clsIn K C).isSome && PySem.W.typeIn K (.ref C) == some (.type "type")) = true := by
    rw [ht, show (PySem.W.clsIn K C).isSome = true from hc] <;> rfl
  unfold PySem.W.kitOne
  rw [if_neg h1]
  show (if _ then _ else _) = _
  rw [if_pos h2]
  exact hs
theorem kit_self {K : PySem.W.Frag} {t : Value} : PySem.W.kitOne K t t = some true := by
  unfold PySem.W.kitOne
  rw [if_pos (beq_iff_eq.mpr rfl)]
theorem kit_typ {K : PySem.W.Frag} {A : Addr} {T : String} {b : Bool} (hm : PySem.W.kitMeta T = true) (hs : PySem.W.subIn K (.ref A) (.type T) = some b) : PySem.W.kitOne K (.ref A) (.type T) = some b := by
  unfold PySem.W.kitOne
  rw [if_neg (fun z => by cases beq_iff_eq.mp z)]
  show (if _ then _ else _) = _
  rw [if_pos hm]
  exact hs
theorem exm_mk {K : PySem.W.Frag} {A C : Addr} {b : Bool} (hB : PySem.W.subIn K (.ref C) (.type "BaseException") = some true) (hc : PySem.W.isClsIn K C = true) (ht : PySem.W.typeIn K (.ref C) = some (.type "type")) (hs : PySem.W.subIn K (.ref A) (.ref C) = some b) : PySem.W.exmOne K (.ref A) (.ref C) = some b := by
  have h2 : ((PySem.W.clsIn K C).isSome && PySem.W.typeIn K (.ref C) == some (.type "type")) = true := by
    rw [ht, show (PySem.W.clsIn K C).isSome = true from hc] <;> rfl
  unfold PySem.W.exmOne
  rw [if_pos (by rw [hB] <;> rfl)]
  show (if _ then _ else _) = _
  rw [if_pos h2]
  exact hs
theorem tab_all {T : List (Addr × Str)} {ts : List (Addr × Addr)} {H : Hp} (e : T.map (·.1) = ts.map (·.2)) (h : ∀ p ∈ ts, H p.2 = some (.tbl #[])) : ∀ p ∈ T, H p.1 = some (.tbl #[]) := fun p hp => by
  have z : p.1 ∈ ts.map (·.2) := by rw [← e]; exact List.mem_map.mpr ⟨p, hp, rfl⟩
  obtain ⟨q, hq, e2⟩ := List.mem_map.mp z
  rw [← e2]
  exact h q hq
end DL

namespace DL
open PySem PySem.Spec PyProof.Rows L2
/-! ### sets of ints: made of a list or a tuple, sorted -/
section
variable {P : Program} {w : World} {A : Around} {E : Value → Shared → Prop} {s : Shared}
abbrev noSet (w : World) : Obj := { cls := .type "set", dict := none, data := .set #[] 0 (.fresh 0 0 (!w.params.followText "set-order")) }
/-- set(l), l a list of ints -/
theorem call_set_lstI {l : Addr} {items : Array Value} (ns : List Int) {Q : Value → Shared → Prop} (hh : A.handled = none) (hl : s.heap.IsList l items) (hit : IntsAre items.toList ns) (hb : ns.length + 1 < scanBound)
    (h : ∀ (h' : Heap) (tk c : Nat), SetR w h' s.heap.objs.size (fun j => decide (j ∈ ns)) c → c ≤ ns.length → (∀ b o, s.heap.get? b = some o → h'.get? b = some o) → Q (.ref s.heap.objs.size) { s with heap := h', toks := tk }) :
    wpAny (model P w) A (call (.type "set") [.ref l]) Q E s := by
  have hisz : items.size = ns.length := by rw [← IntsAre.length hit, Array.length_toList]
  obtain ⟨c, tl, hmro⟩ := F.called_set.mro
  have hmade := F.called_set.made
  have hsub := F.called_set.sub
  refine wpAny_call (codeAny_of_tree ?_)
  show wpAny _ _ (callAny (.type "set") _) _ _ _
  refine wpAny_pure ⟨Code.quiet_builtin _ (by decide +kernel), codeAny_builtin F.entry_type_call ?_⟩
  rw [Around.under_plain (weight_type_call_type "set" [.ref l] []) rfl]
  have h1 := F.called_set.notType
  have h2 := F.called_set.canCreate
  have hct := F.typeCall_set_1 (.ref l)
  repeat (any_goals (first | assumption | wp_step))
  refine codeAny_mono (code_set_led1 (.ref l) (E := E) (Q₁ := fun obj s₁ => obj = .ref s.heap.objs.size ∧ s₁ = { s with heap := s.heap.push (noSet w) }) ⟨rfl, rfl⟩) fun r s₁ hr => ?_
  cases r with
  | error e => exact hr
  | ok fl =>
    cases fl with
    | ret obj =>
      obtain ⟨rfl, rfl⟩ := hr
      have hS : (s.heap.push (noSet w)).get? s.heap.objs.size = some (noSet w) := Heap.get?_push_size _ rfl
      have hT : Shared.TypeIs { s with heap := s.heap.push (noSet w) } (.ref s.heap.objs.size) "set" := ⟨_, hS, rfl⟩
      have hli := F.called_set.init.lookup
      have hbi := F.called_set.init.bind (.ref s.heap.objs.size)
      repeat (any_goals (first | assumption | wp_step))
      refine codeAny_mono (codeAny_call_builtin (R := wants (fun r s₂ => r = .none ∧ ∃ h' tk c, s₂ = { s with heap := h', toks := tk } ∧ SetR w h' s.heap.objs.size (fun j => decide (j ∈ ns)) c ∧ c ≤ ns.length ∧
          (∀ b o, s.heap.get? b = some o → h'.get? b = some o)) E) F.called_set.init.plain F.entry_set_init (check_set_init_1 hT ?_)) fun r₂ s₂ hr₂ => ?_
      · obtain ⟨ol, hol, hcl, nl, hdl⟩ := hl
        obtain ⟨ocls, odict, odata, oslots⟩ := ol
        simp only at hcl hdl
        subst hcl; subst hdl
        have hol' : (s.heap.push (noSet w)).get? l = some { cls := .type "list", dict := odict, data := .seq items nl, slots := oslots } := Heap.get?_push_of_some _ hol
        have hsls := F.sub_list_set
        have hslf := F.sub_list_frozenset
        have hne : (Value.type "list" == Value.type "dict") = false := by decide
        have hl1 : (s.heap.push (noSet w)).IsList l items := ⟨_, hol', rfl, nl, rfl⟩
        unfold Builtin.«set.__init__» noKeywords Builtin.Frozenset.updateFrom
        generalize hPI : pyIter = PI
        wp_walk
        subst hPI
        refine wpAny_pyIter_list hl1 (wpAny_bind (wpAny_runValue ?_))
        have hlS : l < s.heap.objs.size := Heap.lt_size hol
        have hh3 : A.in1.in1.in1.handled = none := by simp [hh]
        have hneI : l ≠ (s.heap.push (noSet w)).objs.size := by rw [Heap.size_push]; exact Nat.ne_of_lt (Nat.lt_succ_of_lt hlS)
        have hSf : s.heap.objs.size ∉ [(s.heap.push (noSet w)).objs.size, l] := by
          rw [Heap.size_push]
          simp only [List.mem_cons, List.mem_singleton, List.not_mem_nil, or_false, not_or]
          exact ⟨Nat.ne_of_lt (Nat.lt_succ_self _), Nat.ne_of_gt hlS⟩
        have hval : ∀ (i : Nat) (v : Value), items[i]? = some v → ∃ k t, ns[i]? = some k ∧ v = .int k t := fun i v hv => by
          have hi : i < ns.length := by rw [← hisz]; exact (Array.getElem?_eq_some_iff.mp hv).1
          obtain ⟨t, e⟩ := PyProof.Rows.IntsAre.int_at hit i v (by rw [Array.getElem?_toList]; exact hv)
          refine ⟨ns[i], t, List.getElem?_eq_getElem hi, ?_⟩
          rw [e, List.getD_eq_getElem?_getD, List.getElem?_eq_getElem hi] <;> rfl
        refine set_update_ints ((Walks.list hh3 _ l hneI items).toS) s.heap.objs.size hSf ns hisz hb hval (items.size - 0) 0 _ (by omega) (Nat.zero_le _) ⟨⟨_, Heap.get?_push_size _ rfl, rfl, rfl⟩, (hl1.push _)⟩ ?hS0 ?hR
        case hS0 => exact ⟨0, Nat.le_refl 0, setR_new_at (Heap.get?_push_of_some _ hS)⟩
        case hR =>
          intro s' c' hm hc' hS'
          obtain ⟨h', g2, d', tk', os'⟩ := s'
          have eg : g2 = s.gens := hm.gens
          have ed : d' = s.drawn := hm.drawn
          have eo : os' = s.os := hm.os
          subst eg; subst ed; subst eo
          show wpAny _ _ _ _ _ _
          refine wpAny_pure ?_
          show wpAny _ _ (ret Value.none) _ _ _
          rw [hisz] at hc'
          refine wpAny_pure ⟨rfl, h', tk', c', rfl, hS', hc', fun b o e => ?_⟩
          have hb1 : b ≠ s.heap.objs.size := Nat.ne_of_lt (Heap.lt_size e)
          have hb2 : b ≠ (s.heap.push (noSet w)).objs.size := by rw [Heap.size_push]; exact Nat.ne_of_lt (Nat.lt_succ_of_lt (Heap.lt_size e))
          exact hm.heap b o (by simp only [List.mem_cons, List.mem_singleton, List.not_mem_nil, or_false, not_or]; exact ⟨hb1, hb2⟩) (Heap.get?_push_of_some _ (Heap.get?_push_of_some _ e))
      · cases r₂ with
        | error e => exact hr₂
        | ok fl₂ =>
          cases fl₂ with
          | ret r =>
            obtain ⟨rfl, h', tk, c', rfl, hS', hc', hk'⟩ := hr₂
            repeat (any_goals (first | assumption | wp_step))
            exact h _ _ _ hS' hc' hk'
          | _ => exact hr₂.elim
    | _ => exact hr.elim
end
/-- a set's size, its members bounded -/
theorem nodup_bound : ∀ (B : Nat) (l : List Int), l.Nodup → (∀ k ∈ l, 0 ≤ k ∧ k < B) → l.length ≤ B
  | 0, l, _, h => by
    cases l with
    | nil => exact Nat.le_refl _
    | cons a r => have := h a (by simp); omega
  | B + 1, l, nd, h => by
    have e : (l.filter (· ≠ (B : Int))).length ≤ B := nodup_bound B _ (nd.filter _) fun k hk => by
      have h1 := h k (List.mem_filter.mp hk).1
      have h2 : k ≠ (B : Int) := by simpa using (List.mem_filter.mp hk).2
      omega
    have c : l.countP (fun x => ¬ (decide (x ≠ (B : Int)) = true)) ≤ 1 := by
      have := List.nodup_iff_count.mp nd (B : Int)
      rw [List.count] at this
      refine Nat.le_trans (Nat.le_of_eq ?_) this
      exact List.countP_congr fun x _ => by simp
    have t := List.length_eq_countP_add_countP (fun x => decide (x ≠ (B : Int))) (l := l)
    rw [List.countP_eq_length_filter] at t
    omega
theorem setR_small {w : World} {h : Heap} {a : Addr} {S : Int → Bool} {n B : Nat} (R : SetR w h a S n) (hb : ∀ k, S k = true → 0 ≤ k ∧ k < B) : n ≤ B := by
  obtain ⟨o, es, ep, t, _, _, _, _, nd, hs, _, _, hn, _⟩ := R
  have := nodup_bound B _ nd fun k hk => hb k ((hs k).mpr hk)
  rw [List.length_map, Array.length_toList] at this
  omega
/-- a set of ints as data -/
def setD (w : World) (ns : List Int) : D := .obj ⟨fun G v => ∃ a c, v = .ref a ∧ c < 64 ∧ G a = some (SetO w a (fun j => decide (j ∈ ns)) c), fun e ⟨a, c, h1, h0, h2⟩ => ⟨a, c, h1, h0, e _ _ h2⟩⟩
section
variable {X : Cx}
/-- set(x), x a list or a tuple of ints -/
def rSetI (K : PySem.W.Frag) (w : World) : List V → Hp → VK → Prop := fun vs H Q => ∃ (p : Addr) (ns : List Int), vs = [.ref p] ∧ (SqL K H p (ns.map V.int) ∨ SqT K H p (ns.map V.int)) ∧ ns.length ≤ 1000 ∧ (∀ k ∈ ns, 0 ≤ k ∧ k < 63) ∧
  ∀ a c, H a = none → c < 64 → Q (.ref a) (upd H a (SetO w a (fun j => decide (j ∈ ns)) c))
theorem call_setI (hc : X.calm = true) : CallR X (.type "set") (rSetI X.K X.w) := by
  intro pins s σ H xs us Q I r h
  obtain ⟨p, ns, rfl, hs, hl, hb, q⟩ := h
  rw [Vals.ref1 r]
  have sb : ns.length + 1 < scanBound := Nat.lt_of_le_of_lt (Nat.succ_le_succ hl) (by decide)
  have fin : ∀ (h' : Heap) (tk c : Nat), SetR X.w h' s.heap.objs.size (fun j => decide (j ∈ ns)) c → (∀ b o, s.heap.get? b = some o → h'.get? b = some o) → EP X pins σ Q (.ref s.heap.objs.size) { s with heap := h', toks := tk } := fun h' tk c R k => by
    have c64 : c < 64 := Nat.lt_succ_of_le (setR_small (B := 63) R fun k hk => hb k (of_decide_eq_true hk))
    exact ⟨.ref _, _, I.laid (t' := tk) k (Nat.le_refl _) (setO_new R), rfl, q _ c (I.hok.fresh (Nat.le_refl _)) c64⟩
  rcases hs with hs | hs
  · obtain ⟨its, rv, hp, hz⟩ := I.list hs
    exact call_set_lstI ns (I.ok.hd hc) hp.isList (by simpa using rv.ints) sb fun h' tk c R _ k => fin h' tk c R k
  · obtain ⟨its, rv, hp, hz⟩ := I.tuple hs
    exact call_set_tupI ns (I.ok.hd hc) (show s.heap.IsTuple p its.toArray from hp) (by simpa using rv.ints) sb fun h' tk c R _ k => fin h' tk c R k
end
section
variable {c : Cz} {ρ : Rho} {ω : List Cel} {P : PK} {x : D}
theorem co_setL {ns : List Int} (hx : Vw ω x (.lst (ns.map D.int))) (hl : ns.length ≤ 1000) (hb : ∀ k ∈ ns, 0 ≤ k ∧ k < 63) (q : P (setD c.X.w ns) ω) : CO c (.type "set") ρ [x] ω P := by
  intro M G0 H0 G H σ vs pr S r Q k
  obtain ⟨w, t, rfl, r1, e⟩ := r
  cases e
  obtain ⟨p, rfl, h⟩ := S.vwInts hx r1
  refine WC.of (call_setI pr.calm) ⟨p, ns, rfl, .inl h, hl, hb, fun a n na hn => ?_⟩
  obtain ⟨S2, e2⟩ := S.layX (o := SetO c.X.w a (fun j => decide (j ∈ ns)) n) na True.intro
  exact k _ _ _ (setD c.X.w ns) ω S2 e2 ⟨a, n, rfl, hn, upd_same⟩ q
theorem co_setT {ns : List Int} (hl : ns.length ≤ 1000) (hb : ∀ k ∈ ns, 0 ≤ k ∧ k < 63) (q : P (setD c.X.w ns) ω) : CO c (.type "set") ρ [.tup (ns.map D.int)] ω P := by
  intro M G0 H0 G H σ vs pr S r Q k
  obtain ⟨w, t, rfl, r1, e⟩ := r
  cases e
  obtain ⟨p, ws, rfl, h, rv⟩ := r1
  have := rv.ints
  subst this
  refine WC.of (call_setI pr.calm) ⟨p, ns, rfl, .inr (S.gh.sqT h), hl, hb, fun a n na hn => ?_⟩
  obtain ⟨S2, e2⟩ := S.layX (o := SetO c.X.w a (fun j => decide (j ∈ ns)) n) na True.intro
  exact k _ _ _ (setD c.X.w ns) ω S2 e2 ⟨a, n, rfl, hn, upd_same⟩ q
/-- sorted(set(..)) -/
theorem co_sortedS {ns : List Int} (q : ∀ ms : List Int, ms.Pairwise (· < ·) → (∀ k, k ∈ ms ↔ k ∈ ns) → P (.lst (ms.map D.int)) ω) : CO c (.builtin "sorted") ρ [setD c.X.w ns] ω P := by
  intro M G0 H0 G H σ vs pr S r Q k
  obtain ⟨w, t, rfl, r1, e⟩ := r
  cases e
  obtain ⟨a, n, rfl, hn, h⟩ := r1
  refine WC.of (cr_sortedSet pr.calm) ⟨a, _, n, rfl, S.gh _ _ h, hn, fun ms p h1 h2 _ np => ?_⟩
  obtain ⟨S2, e2, r2⟩ := S.layL np (RS.of_ints (K := c.X.K) (G := G) ms)
  exact k _ _ _ _ ω S2 e2 r2 (q ms h1 fun k => by rw [h2 k]; simp)
end
/-- two ascending lists of the same members are one -/
theorem asc_eq : ∀ {ms ns : List Int}, ms.Pairwise (· < ·) → ns.Pairwise (· < ·) → (∀ k, k ∈ ms ↔ k ∈ ns) → ms = ns
  | [], [], _, _, _ => rfl
  | [], b :: _, _, _, h => by have := (h b).mpr (by simp); simp at this
  | a :: _, [], _, _, h => by have := (h a).mp (by simp); simp at this
  | a :: ms, b :: ns, h1, h2, h => by
    obtain ⟨a1, a2⟩ := List.pairwise_cons.mp h1
    obtain ⟨b1, b2⟩ := List.pairwise_cons.mp h2
    have e : a = b := by
      rcases List.mem_cons.mp ((h a).mp (by simp)) with e | e
      · exact e
      · rcases List.mem_cons.mp ((h b).mpr (by simp)) with e' | e'
        · exact e'.symm
        · have := b1 a e
          have := a1 b e'
          omega
    subst e
    refine congrArg (List.cons a) (asc_eq a2 b2 fun k => ?_)
    constructor
    · intro hk
      rcases List.mem_cons.mp ((h k).mp (by simp [hk])) with e | e
      · have := a1 k hk; omega
      · exact e
    · intro hk
      rcases List.mem_cons.mp ((h k).mpr (by simp [hk])) with e | e
      · have := b1 k hk; omega
      · exact e
end DL

namespace DL
open PySem PySem.Spec PyProof.Rows L2
/-! ### calls without arguments -/
section
variable {c : Cz} {ρ : Rho} {ω : List Cel} {P : PK} {pos p : Pos} {x : Str} {f : Addr} {fd : FuncData} {k : Nat}
theorem ew_core0 {F : FSpec} (C : Callee c x f fd [] k F) (hg : Gl c.X x) (hdb : (x == ("__debug__" : Str)) = false)
    (go : ∀ M G0 H0 G H σ, Pre c M G0 H0 → SI c.X.K c.T M G0 H0 G H σ ρ ω → ∀ Q : VK, Kn c M G0 H0 G σ ρ P Q → ∀ (pins : List (Addr × Obj)) (s : Shared), Inv c.X pins σ H s → wpAny (model c.X.prog c.X.w) c.X.A (call (.ref f) []) (EP c.X pins σ Q) c.X.xe s) :
    EW c (.Call (.Name x p) [] [] pos) ρ ω P := by
  intro M G0 H0 G H σ pr S Q kn pins s I
  refine wpAny_Call_Name_kw (ld_glob I hg C.mg ?_ hdb)
  exact PySem.W.callWith_K0 I.kIn C.kp (go M G0 H0 G H σ pr S Q kn pins s I)
/-- f(), f pure -/
theorem ew_call0 {F : PSpec} (C : Callee c x f fd [] k (pureF F)) (hg : Gl c.X x) (h : F [] (fun d => P d ω) (fun cls fs => c.ex cls fs ω)) (hdb : (x == ("__debug__" : Str)) = false := by decide) : EW c (.Call (.Name x p) [] [] pos) ρ ω P := by
  refine ew_core0 C hg hdb fun M G0 H0 G H σ pr S Q kn pins s I => ?_
  refine call_core C pr S (ds := []) (ws := []) rfl (os := []) (QQ := fun d os' nw => os' = [] ∧ nw = [] ∧ P d ω) (EE := fun cls fs os' => c.ex cls fs ω) (fun _ z => nomatch z) List.nodup_nil ⟨rfl, ?_⟩ (fun w G' H' d os' nw A r' _ _ _ _ ⟨_, _, q⟩ => kn w G' H' d ω (S.step A) A.gg r' q)
    (fun cls dd G' H' fs os' A xd _ _ _ q => ⟨G', ρ, ω, fs, S.step A, xd, q⟩) I .nil
  exact (by simpa using h)
/-- f(), a new object comes back -/
theorem ew_callN0 {F : NSpec} (C : Callee c x f fd [] k (newF F)) (hg : Gl c.X x) (h : F [] (fun d nw => P d (ω ++ cels false nw)) (fun cls fs => c.ex cls fs ω)) (hdb : (x == ("__debug__" : Str)) = false := by decide) : EW c (.Call (.Name x p) [] [] pos) ρ ω P := by
  refine ew_core0 C hg hdb fun M G0 H0 G H σ pr S Q kn pins s I => ?_
  refine call_core C pr S (ds := []) (ws := []) rfl (os := []) (QQ := fun d os' nw => os' = [] ∧ P d (ω ++ cels false nw)) (EE := fun cls fs os' => c.ex cls fs ω) (fun _ z => nomatch z) List.nodup_nil ⟨rfl, ?_⟩ (fun w G' H' d os' nw A r' e1 cn hn nd ⟨e2, q⟩ => ?_)
    (fun cls dd G' H' fs os' A xd _ _ _ q => ⟨G', ρ, ω, fs, S.step A, xd, q⟩) I .nil
  · exact (by simpa using h)
  · have e3 : os' = [] := List.map_eq_nil_iff.mp e2
    subst e3
    exact kn w G' H' d _ (S.news A (by simpa using cn) hn (by simpa using nd)) A.gg r' q
end
/-! ### zip of two tuples, of two lists -/
def zipD (xs ys : List D) : List D := List.zipWith (fun x y => .tup [x, y]) xs ys
theorem zipD_len (xs ys : List D) : (zipD xs ys).length = min xs.length ys.length := by unfold zipD; simp
section
variable {c : Cz} {ρ : Rho} {ω : List Cel} {pos tpos p : Pos} {e e2 : Expr} {elts : List Expr} {kk : Nat}
theorem zipR {K : PySem.W.Frag} {T : List (Addr × Str)} {G2 H2 : Hp} {xs ys : List D} {i : Nat} {x y : V} {d d' : D} {t : Addr} (g2 : Ex G2 H2) (tb : LamX.Tabs T H2) (fz : ∀ a o, G2 a = some o → Fz o) (nt : H2 t = none) (e1 : xs[i]? = some d) (e2 : ys[i]? = some d') (r1 : R K G2 d x) (r2 : R K G2 d' y) :
    ∃ G3 d, Adv T [] G2 H2 G3 (upd H2 t (.tup [x, y])) ∧ (Src.seq (zipD xs ys)).at i = some d ∧ R K G3 d (.ref t) := by
  have A : Adv T [] G2 H2 (upd G2 t (.tup [x, y])) (upd H2 t (.tup [x, y])) := Adv.lay g2 tb fz nt True.intro
  have r3 : RS K (upd G2 t (.tup [x, y])) [d, d'] [x, y] := ⟨x, [y], rfl, r1.mono A.gg, ⟨y, [], rfl, r2.mono A.gg, rfl⟩⟩
  refine ⟨_, .tup [d, d'], A, ?_, ⟨t, _, rfl, .inl (.inl upd_same), r3⟩⟩
  show (zipD xs ys)[i]? = _
  unfold zipD
  rw [List.getElem?_zipWith, e1, e2]
theorem iw_zipT {PI' : Src → List Cel → Prop} (hm : c.X.mg "zip" = none) (hg : Gl c.X "zip") (h : EW c e ρ ω fun d ω1 => EW c e2 ρ ω1 fun d' ω2 => ∃ xs ys, d = .tup xs ∧ d' = .tup ys ∧ PI' (.seq (zipD xs ys)) ω2)
    (hs : starEach [e, e2] c.X.env = (false, eval e c.X.env) :: starEach [e2] c.X.env := by rfl) (hpl : (backTo pos (starEach [e2] c.X.env)).any (·.1) = false := by rfl) (hs2 : starEach [e2] c.X.env = (false, eval e2 c.X.env) :: starEach [] c.X.env := by rfl) :
    IW c (.Tuple elts kk tpos) (.Call (.Name "zip" p) [e, e2] [] pos) ρ ω PI' := by
  intro M G0 H0 G H σ pr S R' k
  refine IWt.of (RZ.pi_zipA hg hm (pa_cons WE.pe (pa_cons WE.pe pa_nil hs2) hs) hs hpl) ?_
  refine h M G0 H0 G H σ pr S _ fun w G1 H1 d ω1 S1 e1 r1 h1 => ?_
  refine h1 M G0 H0 G1 H1 σ pr S1 _ fun w' G2 H2 d' ω2 S2 e2 r2 ⟨xs, ys, ed, ed', q⟩ => ?_
  subst ed ed'
  obtain ⟨a, vs, ew, ha, rv⟩ := r1.mono e2
  obtain ⟨b, ws, ew', hb, rw'⟩ := r2
  subst ew ew'
  have hl : (Src.seq (zipD xs ys)).len = min xs.length ys.length := zipD_len xs ys
  refine ⟨a, b, vs, ws, rfl, .inr ⟨S2.gh.sqT ha, S2.gh.sqT hb, k _ G2 H2 _ ω2 S2 (e1.trans e2) q (fun G3 H3 i g1 g2 => ?_) fun G3 H3 i w H4 g1 g2 fz tb hi y => ?_⟩⟩
  · have hv : SqT c.X.K H3 a vs := g2.sqT (g1.sqT ha)
    have hw : SqT c.X.K H3 b ws := g2.sqT (g1.sqT hb)
    rw [hl, rv.length, rw'.length]
    refine ⟨fun hh => ⟨vs, ws, hv, hw, by omega⟩, fun hh => ⟨vs, ws, vs[i]'(by omega), ws[i]'(by omega), hv, hw, by simp, by simp⟩⟩
  · obtain ⟨t, x, y, rfl, nt, rfl, f1, f2⟩ := y
    obtain ⟨d, q1, q2⟩ := (rv.mono g1).get' (f1 vs (g2.sqT (g1.sqT ha)))
    obtain ⟨d', q3, q4⟩ := (rw'.mono g1).get' (f2 ws (g2.sqT (g1.sqT hb)))
    exact zipR g2 tb fz nt q1 q3 q2 q4
end
/-! ### enumerate of a tuple -/
section
open PyProof
theorem meets_enumT (l : Addr) (items : Array Value) (n : Nat) (dct : Option Addr) (sl : Array (Option Value)) :
    Meets (Builtin.«enumerate.__new__» ⟨[.type "enumerate", .ref l], []⟩) (fun _ R s => s.heap.get? l = some { cls := .type "tuple", dict := dct, data := .seq items n, slots := sl } ∧
      R (.ok (.ret (.ref (s.heap.push { cls := .type "tuple_iterator", data := .fields #[.ref l, .int 0 0] }).objs.size)))
        { s with heap := (s.heap.push { cls := .type "tuple_iterator", data := .fields #[.ref l, .int 0 0] }).push { cls := .type "enumerate", data := .fields #[.none, .bool false, .ref s.heap.objs.size, rawInt 0, .none, .none] } }) :=
  .of_wp fun prog w A R s h => by
    obtain ⟨hp, g, d, tk, os⟩ := s
    obtain ⟨hl, h⟩ := h
    have hsub := sub_enumerate
    have hL : Heap.IsTuple (Shared.heap ⟨hp, g, d, tk, os⟩) l items := ⟨_, hl, rfl, n, rfl⟩
    wp_walk using AutoSeq1.wpAny_loadPart' hl
    refine wpAny_stack_any fun st => wpAny_pure ?_
    split
    · rename_i c _ _ _ _ _
      cases (c == Value.type "enumerate")
      · wp_walk using AutoSeq1.wpAny_loadPart' hl, wpAny_pyIter_tuple hL
        exact ⟨_, rfl, h⟩
      · wp_walk using AutoSeq1.wpAny_loadPart' hl, wpAny_pyIter_tuple hL
        exact ⟨_, rfl, h⟩
    · wp_walk using AutoSeq1.wpAny_loadPart' hl, wpAny_pyIter_tuple hL
      exact ⟨_, rfl, h⟩
section
variable {prog : Program} {w : World} {A : Around} {E : Value → Shared → Prop} {s : Shared}
theorem call_enumT {l : Addr} {items : Array Value} {Q : Value → Shared → Prop} (hL : s.heap.IsTuple l items)
    (h : ∀ h', IsEnum h' (s.heap.objs.size + 1) s.heap.objs.size 0 .none → h'.IsTupleIter s.heap.objs.size l 0 → h'.objs.size = s.heap.objs.size + 2 →
      (∀ b o, s.heap.get? b = some o → h'.get? b = some o) → Q (.ref (s.heap.objs.size + 1)) { s with heap := h' }) :
    wpAny (model prog w) A (call (.type "enumerate") [.ref l]) Q E s := by
  obtain ⟨⟨c, dct, dt, sl⟩, hl, hc, n, hd⟩ := hL
  replace hc : c = .type "tuple" := hc
  replace hd : dt = .seq items n := hd
  subst hc hd
  refine callType_new F.called_enumerate (by decide) (F.typeCall_enumerate_1 _) (F.newCall_enumerate_1 _) (fun obj => F.args_object_init_2 obj _) F.entry_enumerate_new (meets_enumT l items n dct sl) ⟨hl, ?_⟩
  have hz : (s.heap.push { cls := .type "tuple_iterator", data := .fields #[.ref l, .int 0 0] }).objs.size = s.heap.objs.size + 1 := Heap.size_push ..
  show _ ∧ _
  rw [hz]
  have he : IsEnum ((s.heap.push { cls := .type "tuple_iterator", data := .fields #[.ref l, .int 0 0] }).push
      { cls := .type "enumerate", data := .fields #[.none, .bool false, .ref s.heap.objs.size, rawInt 0, .none, .none] }) (s.heap.objs.size + 1) s.heap.objs.size 0 .none := by
    have q := Heap.get?_push_size (s.heap.push { cls := .type "tuple_iterator", data := .fields #[.ref l, .int 0 0] }) (o := { cls := .type "enumerate", data := .fields #[.none, .bool false, .ref s.heap.objs.size, rawInt 0, .none, .none] }) rfl
    rw [hz] at q
    exact q
  exact ⟨⟨_, he, rfl⟩, h _ he ⟨_, Heap.get?_push_of_some _ (Heap.get?_push_size _ rfl), rfl, rfl⟩ (by rw [Heap.size_push, hz]) fun b o x => Heap.get?_push_of_some _ (Heap.get?_push_of_some _ x)⟩
end
def EteT (K : PySem.W.Frag) (a : Addr) : It :=
  ⟨fun i H => ∃ (xs : List V) (x : V), SqT K H a xs ∧ xs[i]? = some x, fun i H v H' => ∃ T x, v = .ref T ∧ H T = none ∧ H' = upd H T (.tup [.int (i : Nat), x]) ∧ ∀ xs, SqT K H a xs → xs[i]? = some x, fun i H => ∃ xs : List V, SqT K H a xs ∧ xs.length ≤ i⟩
theorem turn_enumT {P : Program} {w : World} {K : PySem.W.Frag} {elts : List Expr} {kk : Nat} {tpos : Pos} (a e it : Addr) :
    Turn P w K (.Tuple elts kk tpos) (EteT K a) [e, it] e (fun i h => (∃ old, IsEnum h e it ((i : Nat) : Int) old) ∧ h.IsTupleIter it a i ∧ e ≠ it) where
  mem := by simp
  obj := fun i h st b hb => by
    obtain ⟨⟨old, he⟩, ⟨o, ho, hc, hd⟩, _⟩ := st
    have e' : b = e ∨ b = it := by simpa using hb
    rcases e' with z | z
    · rw [z]; exact ⟨_, he, fun v q => nomatch q⟩
    · rw [z]; exact ⟨o, ho, fun v q => by rw [hd] at q; cases q⟩
  keep := fun i h h' st k => by
    obtain ⟨⟨old, he⟩, hi, hne⟩ := st
    exact ⟨⟨old, k e (by simp) _ he⟩, hi.at fun o q => k it (by simp) o q, hne⟩
  item := by
    intro X hP hw hK hc i pins s σ H E I hf st hg
    subst hP hw hK
    obtain ⟨⟨old, he⟩, hit, hne⟩ := st
    obtain ⟨xs, x, hq, hx⟩ := hg
    obtain ⟨its, rv, p, hz⟩ := I.tuple hq
    have p' : s.heap.IsTuple a its.toArray := p
    obtain ⟨u, hu, ru⟩ := rv.get hx
    have hel : e < s.heap.objs.size := Heap.lt_size he
    have hil : it < s.heap.objs.size := by obtain ⟨_, q, _⟩ := hit; exact Heap.lt_size q
    have hai : a ≠ it := fun z => by
      obtain ⟨o1, q1, c1, _⟩ := p'
      obtain ⟨o2, q2, c2, _⟩ := hit
      rw [z, q2] at q1
      cases q1
      rw [c2] at c1
      exact absurd c1 (by decide)
    have hae : a ≠ e := fun z => by
      obtain ⟨o1, q1, c1, _⟩ := p'
      rw [z, he] at q1
      cases q1
      exact absurd (show Value.type "enumerate" = Value.type "tuple" from c1) (by decide)
    have hlt : i < its.toArray.size := by rw [List.size_toArray]; exact (List.getElem?_eq_some_iff.mp hu).1
    refine wpAny_pyNext_enum_itemD (Draws.tuple (show X.A.in1.handled = none from I.ok.hd hc) it a hai its.toArray) he ⟨hit, p'⟩ hlt hne (by simp [hne, hae.symm]) fun x' h' tk hP ho hit' hT hsz hk => ?_
    have ex : x' = u := by
      have hP' : its.toArray[i]? = some x' := hP
      rw [List.getElem?_toArray, hu] at hP'
      exact (Option.some.inj hP').symm
    subst ex
    refine ⟨_, rfl, wpAny_letOwnedTupleGo_enum (s := { s with heap := h', toks := tk + 1 }) ho fun h'' he' sb => ?_⟩
    have hT2 : h''.get? s.heap.objs.size = some { cls := .type "tuple", data := .seq #[.int i tk, x'] } := (sb.2 _ (Nat.ne_of_gt hel)).trans hT
    have new : ObjOk X.prog X.w (upd H s.heap.objs.size (.tup [.int (i : Nat), x])) h'' s.heap.objs.size (.tup [.int (i : Nat), x]) :=
      ⟨by show 2 ≤ sizeLine; decide, [.int i tk, x'], .cons ⟨_, rfl⟩ (.cons ru .nil), ⟨_, hT2, rfl, _, rfl⟩⟩
    have I1 : Inv X pins σ (upd H s.heap.objs.size (.tup [.int (i : Nat), x])) { s with heap := h'', toks := tk + 1 } :=
      I.turnedNew (ch := [e, it]) (fun b ob hb q => (sb.2 b (fun z => hb (by simp [z]))).trans (hk b ob (fun z => hb (by simp [z])) (fun z => hb (by simp [z])) q)) hf (Nat.le_refl _) new
    refine ⟨.ref s.heap.objs.size, _, I1, rfl, ⟨_, x, rfl, I.hok.fresh (Nat.le_refl _), rfl, fun ys hy => by rw [I.tuple_inj hy hq]; exact hx⟩, ⟨⟨x', ?_⟩, hit'.1.at fun o q => (sb.2 it (Ne.symm hne)).trans q, hne⟩, fun b hb => ?_⟩
    · have e1 : ((i + 1 : Nat) : Int) = (i : Int) + 1 := by omega
      rw [e1]; exact he'
    · have hb' : b < s.heap.objs.size := by
        have e' : b = e ∨ b = it := by simpa using hb
        rcases e' with z | z
        · rw [z]; exact hel
        · rw [z]; exact hil
      rw [upd_ne (Nat.ne_of_lt hb')]
      exact (hf b hb).1
  done := by
    intro X hP hw hK hc i pins s σ H E I hf st hg
    subst hP hw hK
    obtain ⟨⟨old, he⟩, hit, hne⟩ := st
    obtain ⟨xs, hq, hx⟩ := hg
    obtain ⟨its, rv, p, hz⟩ := I.tuple hq
    obtain ⟨f0, f1, f2, f3, f4, f5⟩ := hf it (by simp)
    have p' : s.heap.IsTuple a its.toArray := p
    have hend : its.toArray[i]? = none := by
      rw [List.getElem?_toArray]
      exact List.getElem?_eq_none (by rw [← rv.length]; exact hx)
    have hTy : s.TypeIs (.ref e) "enumerate" := ⟨_, he, rfl⟩
    unfold pyNext
    refine wpAny_bind (wpAny_attempt (wpAny_callSpecial?_slot (name := Str.ofString "__next__") hTy F.slot_enumerate_next (wpAny_call_entry F.slot_enumerate_next hTy F.entry_enumerate_next ?_ (F.args_enumerate_next_1 _))))
    show wpAny _ _ (field (.ref e) 2 >>= _) _ _ _
    refine wpAny_bind (wpAny_field he rfl (x := .ref it) rfl ?_)
    refine wpAny_bind (wpAny_nextOf_tuple_end (show X.A.in1.handled = none from I.ok.hd hc) hit p' hend fun h' x he' hx' => ?_)
    obtain ⟨o, ho, hc'⟩ := hx'
    refine wpAny_bind (wpAny_isInstance (T := "StopIteration") (b := true) ⟨o, ho, hc'⟩ isSubtype_stop ?_)
    exact wpAny_pure ⟨rfl, I.turned (t' := s.toks) (fun b o hb q => he' b o hb q) f0 f1 f3 f4 f5⟩
  self := fun A i s Q E st h => by
    obtain ⟨⟨_, he⟩, _⟩ := st
    exact wpAny_pyIter_enum he h
theorem pi_enumT {X : Cx} {e : Expr} {ta : TA} {p pos tpos : Pos} {elts : List Expr} {kk : Nat} (hg : Gl X "enumerate") (hm : X.mg "enumerate" = none) (ha : PA X [e] ta) (hs : starEach [e] X.env = [(false, eval e X.env)] := by rfl) :
    PI X (.Tuple elts kk tpos) (.Call (.Name "enumerate" p) [e] [] pos) (fun σ H R => ta σ H fun vs H1 => ∃ a xs, vs = [.ref a] ∧ SqT X.K H1 a xs ∧ R (EteT X.K a) H1) := by
  refine ⟨fun pins s σ H R I h => ?_⟩
  refine Call_ (ld_blt I hg hm boot_enumerate (PyProof.Rows.callWith_type1 (thn (ha.run pos pins s σ H _ I h) fun us s1 ⟨vs, H1, I1, r1, a, xs, ex, hq, q⟩ => ?_) hs rfl))
  subst ex
  rw [Vals.ref1 r1]
  obtain ⟨its, rv, p', hz⟩ := I1.tuple hq
  refine call_enumT (show s1.heap.IsTuple a its.toArray from p') fun h' he hit hsz hk => wpAny_pyIter_enum he ?_
  have I2 : Inv X pins σ H1 { s1 with heap := h' } := I1.kept (t' := s1.toks) hk
  refine ⟨s1.heap.objs.size + 1, [s1.heap.objs.size + 1, s1.heap.objs.size], _, _, H1, rfl, I2, turn_enumT a (s1.heap.objs.size + 1) s1.heap.objs.size, ⟨⟨.none, he⟩, hit, Nat.succ_ne_self _⟩, fun b hb => ?_, q⟩
  have e' : b = s1.heap.objs.size + 1 ∨ b = s1.heap.objs.size := by simpa using hb
  have hle : s1.heap.objs.size ≤ b := by
    rcases e' with z | z
    · rw [z]; exact Nat.le_add_right _ _
    · rw [z]; exact Nat.le_refl _
  exact I1.fpOk hle (I1.hok.fresh hle)
end
section
variable {c : Cz} {ρ : Rho} {ω : List Cel} {pos tpos p : Pos} {e : Expr} {elts : List Expr} {kk : Nat}
theorem iw_enumT {PI' : Src → List Cel → Prop} (hm : c.X.mg "enumerate" = none) (hg : Gl c.X "enumerate") (h : EW c e ρ ω fun d ω1 => ∃ xs, d = .tup xs ∧ PI' (.seq (enumD xs)) ω1) (hs : starEach [e] c.X.env = [(false, eval e c.X.env)] := by rfl) :
    IW c (.Tuple elts kk tpos) (.Call (.Name "enumerate" p) [e] [] pos) ρ ω PI' := by
  intro M G0 H0 G H σ pr S R' k
  refine IWt.of (pi_enumT hg hm (pa_cons WE.pe pa_nil hs) hs) ?_
  refine h M G0 H0 G H σ pr S _ fun w G1 H1 d ω1 S1 e1 r1 ⟨xs, ed, q⟩ => ?_
  subst ed
  obtain ⟨a, vs, ew, ha, rv⟩ := r1
  subst ew
  have hl : (Src.seq (enumD xs)).len = xs.length := enumD_len xs
  refine ⟨a, vs, rfl, S1.gh.sqT ha, k _ G1 H1 _ ω1 S1 e1 q (fun G2 H2 i g1 g2 => ?_) fun G2 H2 i w H3 g1 g2 fz tb hi y => ?_⟩
  · have hv : SqT c.X.K H2 a vs := g2.sqT (g1.sqT ha)
    rw [hl]
    refine ⟨fun hh => ⟨vs, hv, by rw [← rv.length]; exact hh⟩, fun hh => ⟨vs, vs[i]'(by rw [← rv.length]; exact hh), hv, by simp⟩⟩
  · obtain ⟨t, x, rfl, nt, rfl, f⟩ := y
    have hv : SqT c.X.K H2 a vs := g2.sqT (g1.sqT ha)
    obtain ⟨d, e1, r⟩ := (rv.mono g1).get' (f vs hv)
    have A : Adv c.T [] G2 H2 (upd G2 t (.tup [.int (i : Nat), x])) (upd H2 t (.tup [.int (i : Nat), x])) := Adv.lay g2 tb fz nt True.intro
    have r2 : RS c.X.K (upd G2 t (.tup [.int (i : Nat), x])) [.int (i : Nat), d] [.int (i : Nat), x] := ⟨.int (i : Nat), [x], rfl, rfl, ⟨x, [], rfl, r.mono A.gg, rfl⟩⟩
    exact ⟨_, .tup [.int (i : Nat), d], A, by show (enumD xs)[i]? = _; rw [enumD_at, e1]; rfl, ⟨t, _, rfl, .inl (.inl upd_same), r2⟩⟩
end
end DL

namespace DL
open PySem PySem.Spec PyProof.Rows L2
/-! ### a plain local is set to a comprehension (written on one line: the list is handed over within the frame) -/
section
variable {c : Cz} {ρ : Rho} {ω : List Cel} {W : PD} {pos spos py : Pos} {y : Str} {elt tg iter : Expr} {ifs : List Expr} {scope : Scope} {own : List (Str × Nat)}
theorem s1_setLc (j i : Nat) (hy : c.X.N[j]? = some y) (hyl : c.X.env.scope.names.lookup y = some .local) (hsw : swapsWith (.ListComp elt [⟨tg, iter, ifs, 0⟩] scope pos) (some (.Name y py)) spos.line c.X.env = pure true) (ok : BlkOk c.X.N c.X.env.scope scope own) (hown : own.map (·.2) = [i])
    (hg : c.X.N.Nodup → ∀ s H C cl fp, PG (c.blk s H scope C cl fp).X tg (gName i))
    (h : IW c tg iter ρ ω (LcAsk c scope elt ifs [i] (fun _ => True) (fun d ρ => ρ.set i (some d)) ρ fun d ω1 => W.nx (ρ.set j (some d)) ω1)) (hs : ∀ x, foldedSetIterable iter c.X.env x = pure x := by intro _; rfl) :
    SW1 c (.Assign [.Name y py] (.ListComp elt [⟨tg, iter, ifs, 0⟩] scope pos) spos) ρ ω W := by
  intro M G0 H0 G H σ pr S De k pins s I
  refine (WS1.of (De := De) (ps_setLc pr.calm pr.nd hy hyl hsw IWt.pi ok (hg pr.nd) (fun s H C cl fp => ttB.pts s H C cl fp) (fun s H C cl fp => teB.pe s H C cl fp) hs) ?_) pins s I
  rw [hown]
  refine lc_reading (gsem_name c i) h pr S (fun j hj => ?_) fun w G' H' d ω' S' e' r q => ?_
  · have : i ∈ own.map (·.2) := by rw [hown]; simp
    obtain ⟨p, hp, ep⟩ := List.mem_map.mp this
    have e : j = i := by simpa using hj
    subst e
    rw [I.len, ← ep]
    exact (List.getElem?_eq_some_iff.mp (ok.ix p hp)).1
  · exact k.nx _ G' H' _ ω' (S'.store r (by rw [I.len]; exact (List.getElem?_eq_some_iff.mp hy).1)) e' q
theorem s1_setLcT (j : Nat) (is : List Nat) (hy : c.X.N[j]? = some y) (hyl : c.X.env.scope.names.lookup y = some .local) (hsw : swapsWith (.ListComp elt [⟨tg, iter, ifs, 0⟩] scope pos) (some (.Name y py)) spos.line c.X.env = pure true) (ok : BlkOk c.X.N c.X.env.scope scope own) (hown : own.map (·.2) = is)
    (hg : c.X.N.Nodup → ∀ s H C cl fp, PG (c.blk s H scope C cl fp).X tg (gTup c.X.K is.length (gNs is)))
    (h : IW c tg iter ρ ω (LcAsk c scope elt ifs is (fun d => ∃ ds, d = .tup ds ∧ ds.length = is.length) (fun d ρ => match d with | .tup ds => setN is ds ρ | _ => ρ) ρ fun d ω1 => W.nx (ρ.set j (some d)) ω1)) (hs : ∀ x, foldedSetIterable iter c.X.env x = pure x := by intro _; rfl) :
    SW1 c (.Assign [.Name y py] (.ListComp elt [⟨tg, iter, ifs, 0⟩] scope pos) spos) ρ ω W := by
  intro M G0 H0 G H σ pr S De k pins s I
  refine (WS1.of (De := De) (ps_setLc pr.calm pr.nd hy hyl hsw IWt.pi ok (hg pr.nd) (fun s H C cl fp => ttB.pts s H C cl fp) (fun s H C cl fp => teB.pe s H C cl fp) hs) ?_) pins s I
  rw [hown]
  refine lc_reading (gsem_tup c is) h pr S (fun j hj => ?_) fun w G' H' d ω' S' e' r q => ?_
  · have : j ∈ own.map (·.2) := by rw [hown]; exact hj
    obtain ⟨p, hp, ep⟩ := List.mem_map.mp this
    rw [I.len, ← ep]
    exact (List.getElem?_eq_some_iff.mp (ok.ix p hp)).1
  · exact k.nx _ G' H' _ ω' (S'.store r (by rw [I.len]; exact (List.getElem?_eq_some_iff.mp hy).1)) e' q
end
end DL

namespace DL
open PySem PySem.Spec PyProof.Rows L2
/-! ### a comprehension whose tests or elements write cells: told by an invariant -/
section
variable {c : Cz} {ρ : Rho} {ω : List Cel} {P : PK} {W : PD} {pos spos py : Pos} {y : Str} {elt tg iter : Expr} {ifs : List Expr} {scope : Scope} {own : List (Str × Nat)}
def LcAskI (c : Cz) (scope : Scope) (elt : Expr) (ifs : List Expr) (vs : List Nat) (dom : D → Prop) (st : D → Rho → Rho) (ρ : Rho) (P : PK) (sr : Src) (ω1 : List Cel) : Prop :=
  sr.len ≤ sizeLine ∧ ∃ J : Nat → List D → List Cel → Prop, J 0 [] ω1 ∧ (∀ n d ds ω, sr.at n = some d → ds.length ≤ n → J n ds ω → dom d ∧
    ∀ p s H C cl fp, TsW (c.blk s H scope C cl fp) ifs (st d (vs.foldr (fun v r => r.set v none) ρ)) (ω ++ [⟨p, false, .lst ds⟩]) fun b ω3 => ∃ ω', ω3 = ω' ++ [⟨p, false, .lst ds⟩] ∧
      (b = true → ∀ s H C cl fp, EW (c.blk s H scope C cl fp) elt (st d (vs.foldr (fun v r => r.set v none) ρ)) (ω' ++ [⟨p, false, .lst ds⟩]) fun y ω4 => ∃ ω'', ω4 = ω'' ++ [⟨p, false, .lst ds⟩] ∧ J (n + 1) (ds ++ [y]) ω'') ∧ (b = false → J (n + 1) ds ω')) ∧
    ∀ ds ω, ds.length ≤ sr.len → J sr.len ds ω → P (.lst ds) ω
theorem lc_readingI {g : TG} {vs : List Nat} {dom : D → Prop} {st : D → Rho → Rho} (hgs : GSem c g vs dom st)
    (h : IW c tg iter ρ ω (LcAskI c scope elt ifs vs dom st ρ P))
    {M : List Addr} {G0 H0 G H : Hp} {σ : L2.St} (pr : Pre c M G0 H0) (S : SI c.X.K c.T M G0 H0 G H σ ρ ω) (hvs : ∀ i ∈ vs, i < σ.length) {Q : VK} (k : Kn c M G0 H0 G σ ρ P Q) :
    tLc (IWt c tg iter) g (ttB c scope ifs) (teB c scope elt) vs σ H Q := by
  refine h M G0 H0 G H σ pr S _ fun J G1 H1 sr ω1 S1 e1 ⟨hz, Iv, iv0, turn, fin⟩ stop yld => ?_
  intro Da nD
  have SD := S1.cell (o := .lst []) nD ⟨[], upd_same, rfl⟩
  refine ⟨fun n m H' => m = sr.len - n ∧ n ≤ sr.len ∧ ∃ G' ds ω', Iv n ds ω' ∧ ds.length ≤ n ∧ SI c.X.K c.T M G0 H0 G' H' (L2.wipe σ vs) (vs.foldr (fun v r => r.set v none) ρ) (ω' ++ [⟨Da, false, .lst ds⟩]) ∧ Ex G1 G', ⟨_, rfl, Nat.zero_le _, G1, [], ω1, iv0, Nat.le_refl _, ?_, Ex.refl _⟩, ?_⟩
  · obtain ⟨ρ', S', er⟩ := SD.wipe vs
    subst er
    exact S'
  rintro n m H' ⟨rfl, hn, G', ds, ωn, ivn, hacc, S', e'⟩
  by_cases hlt : n < sr.len
  · refine .inr ⟨(stop G' H' n e' S'.gh).2 hlt, fun H2 => ∃ G2 ds2 ω2, Iv (n + 1) ds2 ω2 ∧ ds2.length ≤ n + 1 ∧ SI c.X.K c.T M G0 H0 G2 H2 (L2.wipe σ vs) (vs.foldr (fun v r => r.set v none) ρ) (ω2 ++ [⟨Da, false, .lst ds2⟩]) ∧ Ex G1 G2, fun H2 ⟨G2, ds2, ω2, i2, l2, S2, e2⟩ => ⟨sr.len - (n + 1), by omega, rfl, hlt, G2, ds2, ω2, i2, l2, S2, e2⟩, fun w H3 y => ?_⟩
    obtain ⟨G3, d, A, ed, r⟩ := yld G' H' n w H3 e' S'.gh S'.adv.fz S'.adv.tab hlt y
    have S3 := S'.step A
    obtain ⟨hd, ht⟩ := turn n d ds ωn ed hacc ivn
    refine hgs M G0 H0 G3 H3 _ _ _ d w S3 r hd (fun i hi => by rw [wipe_length]; exact hvs i hi) _ fun σ2 S4 hw => ⟨by rw [hw, wipe_idem], ?_⟩
    have back : ∀ {G5 H5 : Hp} {ω5 : List Cel}, SI c.X.K c.T M G0 H0 G5 H5 σ2 (st d (vs.foldr (fun v r => r.set v none) ρ)) ω5 → Ex G3 G5 → SI c.X.K c.T M G0 H0 G5 H5 (L2.wipe σ vs) (vs.foldr (fun v r => r.set v none) ρ) ω5 := fun {G5 H5 ω5} S5 e5 =>
      ⟨S5.adv, S3.len, fun i d q => let ⟨w, q1, q2⟩ := S3.env i d q; ⟨w, q1, q2.mono e5⟩, S5.own, S5.nd, S5.mm⟩
    have last : ∀ ω' : List Cel, (ω' ++ [(⟨Da, false, .lst ds⟩ : Cel)])[ω'.length]? = some ⟨Da, false, .lst ds⟩ := fun ω' => by simp
    -- behind the tests
    have tail : ∀ {G5 H5 : Hp} (ω' : List Cel) (b : Bool), SI c.X.K c.T M G0 H0 G5 H5 σ2 (st d (vs.foldr (fun v r => r.set v none) ρ)) (ω' ++ [⟨Da, false, .lst ds⟩]) → Ex G3 G5 →
        (b = true → ∀ s H C cl fp, EW (c.blk s H scope C cl fp) elt (st d (vs.foldr (fun v r => r.set v none) ρ)) (ω' ++ [⟨Da, false, .lst ds⟩]) fun y ω4 => ∃ ω'', ω4 = ω'' ++ [⟨Da, false, .lst ds⟩] ∧ Iv (n + 1) (ds ++ [y]) ω'') → (b = false → Iv (n + 1) ds ω') →
        (if b = true then (∀ s Hb C cl fp, WE (c.blk s Hb scope C cl fp).X elt σ2 H5 (fun y H4 => ∃ acc, H4 Da = some (.lst acc) ∧ acc.length < sizeLine ∧ (∃ G2 ds2 ω2, Iv (n + 1) ds2 ω2 ∧ ds2.length ≤ n + 1 ∧ SI c.X.K c.T M G0 H0 G2 (upd H4 Da (.lst (acc ++ [y]))) (L2.wipe σ vs) (vs.foldr (fun v r => r.set v none) ρ) (ω2 ++ [⟨Da, false, .lst ds2⟩]) ∧ Ex G1 G2)))
          else (∃ G2 ds2 ω2, Iv (n + 1) ds2 ω2 ∧ ds2.length ≤ n + 1 ∧ SI c.X.K c.T M G0 H0 G2 H5 (L2.wipe σ vs) (vs.foldr (fun v r => r.set v none) ρ) (ω2 ++ [⟨Da, false, .lst ds2⟩]) ∧ Ex G1 G2)) := fun {G5 H5} ω' b S5 e5 he hf => by
      cases hb : b with
      | true =>
        rw [if_pos rfl]
        intro s0 Hs C cl fp
        refine he hb s0 Hs C cl fp M G0 H0 G5 H5 σ2 (blk_pre pr s0 Hs scope C cl fp) S5 _ fun w6 G6 H6 y ω6 S6 e6 r6 ⟨ω'', eω, iv⟩ => ?_
        subst eω
        obtain ⟨_, _, va, eH, rva⟩ := S6.own _ (List.mem_of_getElem? (last ω''))
        refine ⟨va, eH, by rw [← rva.length]; omega, G6, ds ++ [y], ω'', iv, by rw [List.length_append, List.length_singleton]; omega, ?_, e'.trans (A.gg.trans (e5.trans e6))⟩
        have S7 := (back S6 (e5.trans e6)).wrL (last ω'') (rva.append (RS.one r6))
        have ep : put (ω'' ++ [(⟨Da, false, .lst ds⟩ : Cel)]) ω''.length (.lst (ds ++ [y])) = ω'' ++ [⟨Da, false, .lst (ds ++ [y])⟩] := by
          unfold put
          rw [last ω'']
          simp
        rw [ep] at S7
        exact S7
      | false =>
        rw [if_neg Bool.false_ne_true]
        exact ⟨G5, ds, ω', hf hb, by omega, back S5 e5, e'.trans (A.gg.trans e5)⟩
    intro s0 Hs C cl fp
    have ht := ht Da s0 Hs C cl fp
    match ifs, ht with
    | [], ht =>
      obtain ⟨ω', eω, h1, h2⟩ := ht
      have eq : ωn = ω' := (List.append_inj' eω rfl).1
      subst eq
      exact tail ωn true S4 (Ex.refl G3) h1 h2
    | [t], ht =>
      refine ht M G0 H0 G3 H3 σ2 (blk_pre pr s0 Hs scope C cl fp) S4 _ fun b G5 H5 ω5 S5 e5 ⟨ω', eω, h1, h2⟩ => ?_
      subst eω
      exact tail ω' b S5 e5 h1 h2
    | _ :: _ :: _, ht => exact ht.elim
  · have en : n = sr.len := by omega
    subst en
    refine .inl ⟨(stop G' H' _ e' S'.gh).1 (Nat.le_refl _), ?_⟩
    obtain ⟨G2, e2, r2, S2⟩ := S'.freeze (j := ωn.length) (p := Da) (ds := ds) (by simp)
    have eo : (ωn ++ [(⟨Da, false, .lst ds⟩ : Cel)]).eraseIdx ωn.length = ωn := by simp [List.eraseIdx_append_of_length_le]
    rw [eo] at S2
    refine k _ G2 H' (.lst ds) ωn ⟨S2.adv, S1.len, fun i d q => ?_, S2.own, S2.nd, S2.mm⟩ (e1.trans (e'.trans e2)) r2 (fin _ _ hacc ivn)
    obtain ⟨w, q1, q2⟩ := S1.env i d q
    exact ⟨w, q1, q2.mono (e'.trans e2)⟩
theorem ew_lcI (i : Nat) {own : List (Str × Nat)} (ok : BlkOk c.X.N c.X.env.scope scope own) (hown : own.map (·.2) = [i])
    (hg : c.X.N.Nodup → ∀ s H C cl fp, PG (c.blk s H scope C cl fp).X tg (gName i))
    (h : IW c tg iter ρ ω (LcAskI c scope elt ifs [i] (fun _ => True) (fun d ρ => ρ.set i (some d)) ρ P)) (hs : ∀ x, foldedSetIterable iter c.X.env x = pure x := by intro _; rfl) : EW c (.ListComp elt [⟨tg, iter, ifs, 0⟩] scope pos) ρ ω P := by
  intro M G0 H0 G H σ pr S Q k pins s I
  refine (WE.of (pe_lc pr.calm pr.nd IWt.pi ok (hg pr.nd) (fun s H C cl fp => ttB.pts s H C cl fp) (fun s H C cl fp => teB.pe s H C cl fp) hs) ?_) pins s I
  rw [hown]
  refine lc_readingI (gsem_name c i) h pr S (fun j hj => ?_) k
  have : i ∈ own.map (·.2) := by rw [hown]; simp
  obtain ⟨p, hp, ep⟩ := List.mem_map.mp this
  have e : j = i := by simpa using hj
  subst e
  rw [I.len, ← ep]
  exact (List.getElem?_eq_some_iff.mp (ok.ix p hp)).1
theorem ew_lcIT (is : List Nat) {own : List (Str × Nat)} (ok : BlkOk c.X.N c.X.env.scope scope own) (hown : own.map (·.2) = is)
    (hg : c.X.N.Nodup → ∀ s H C cl fp, PG (c.blk s H scope C cl fp).X tg (gTup c.X.K is.length (gNs is)))
    (h : IW c tg iter ρ ω (LcAskI c scope elt ifs is (fun d => ∃ ds, d = .tup ds ∧ ds.length = is.length) (fun d ρ => match d with | .tup ds => setN is ds ρ | _ => ρ) ρ P)) (hs : ∀ x, foldedSetIterable iter c.X.env x = pure x := by intro _; rfl) : EW c (.ListComp elt [⟨tg, iter, ifs, 0⟩] scope pos) ρ ω P := by
  intro M G0 H0 G H σ pr S Q k pins s I
  refine (WE.of (pe_lc pr.calm pr.nd IWt.pi ok (hg pr.nd) (fun s H C cl fp => ttB.pts s H C cl fp) (fun s H C cl fp => teB.pe s H C cl fp) hs) ?_) pins s I
  rw [hown]
  refine lc_readingI (gsem_tup c is) h pr S (fun j hj => ?_) k
  have : j ∈ own.map (·.2) := by rw [hown]; exact hj
  obtain ⟨p, hp, ep⟩ := List.mem_map.mp this
  rw [I.len, ← ep]
  exact (List.getElem?_eq_some_iff.mp (ok.ix p hp)).1
theorem s1_setLcI (j i : Nat) (hy : c.X.N[j]? = some y) (hyl : c.X.env.scope.names.lookup y = some .local) (hsw : swapsWith (.ListComp elt [⟨tg, iter, ifs, 0⟩] scope pos) (some (.Name y py)) spos.line c.X.env = pure true) (ok : BlkOk c.X.N c.X.env.scope scope own) (hown : own.map (·.2) = [i])
    (hg : c.X.N.Nodup → ∀ s H C cl fp, PG (c.blk s H scope C cl fp).X tg (gName i))
    (h : IW c tg iter ρ ω (LcAskI c scope elt ifs [i] (fun _ => True) (fun d ρ => ρ.set i (some d)) ρ fun d ω1 => W.nx (ρ.set j (some d)) ω1)) (hs : ∀ x, foldedSetIterable iter c.X.env x = pure x := by intro _; rfl) :
    SW1 c (.Assign [.Name y py] (.ListComp elt [⟨tg, iter, ifs, 0⟩] scope pos) spos) ρ ω W := by
  intro M G0 H0 G H σ pr S De k pins s I
  refine (WS1.of (De := De) (ps_setLc pr.calm pr.nd hy hyl hsw IWt.pi ok (hg pr.nd) (fun s H C cl fp => ttB.pts s H C cl fp) (fun s H C cl fp => teB.pe s H C cl fp) hs) ?_) pins s I
  rw [hown]
  refine lc_readingI (gsem_name c i) h pr S (fun j hj => ?_) fun w G' H' d ω' S' e' r q => ?_
  · have : i ∈ own.map (·.2) := by rw [hown]; simp
    obtain ⟨p, hp, ep⟩ := List.mem_map.mp this
    have e : j = i := by simpa using hj
    subst e
    rw [I.len, ← ep]
    exact (List.getElem?_eq_some_iff.mp (ok.ix p hp)).1
  · exact k.nx _ G' H' _ ω' (S'.store r (by rw [I.len]; exact (List.getElem?_eq_some_iff.mp hy).1)) e' q
end
/-! ### reading at a place in a row of ints -/
def gi (ns : List Int) (i : Int) : Int := ns.getD i.toNat 0
theorem gi_at {ns : List Int} {i : Int} (h0 : 0 ≤ i) (h1 : i < ns.length) : atI (ns.map D.int) i = some (.int (gi ns i)) := by
  obtain ⟨d, e1, e2, e3⟩ := atI_in (xs := ns.map D.int) h0 (by rw [List.length_map]; exact h1)
  rw [e1]
  rw [List.getElem?_map] at e3
  unfold gi
  rw [List.getD_eq_getElem?_getD]
  cases q : ns[i.toNat]? with
  | none => rw [q] at e3; cases e3
  | some z => rw [q] at e3; exact e3.symm
section
variable {c : Cz} {ρ : Rho} {ω : List Cel} {P : PK} {x : D} {i : Int}
theorem io_tupI {ns : List Int} (h0 : 0 ≤ i) (h1 : i < ns.length) (q : P (.int (gi ns i)) ω) : IO c ρ (.tup (ns.map D.int)) (.int i) ω P := io_tup (gi_at h0 h1) q
theorem io_lstI {ns : List Int} (hx : Vw ω x (.lst (ns.map D.int))) (h0 : 0 ≤ i) (h1 : i < ns.length) (q : P (.int (gi ns i)) ω) : IO c ρ x (.int i) ω P := io_lst hx (gi_at h0 h1) q
/-- the last one -/
theorem gi_last {ns : List Int} (h : ns ≠ []) : atI (ns.map D.int) (-1) = some (.int (ns.getLastD 0)) := by
  rcases ns.eq_nil_or_concat with rfl | ⟨u, v, rfl⟩
  · exact absurd rfl h
  · rw [List.concat_eq_append, List.map_append, List.map_singleton, atI_last]
    simp [List.getLastD_eq_getLast?]
/-! ### a tuple times one is itself -/
theorem tuple_mulW1 (l : Addr) (items : Array Value) (n : Nat) (dd : Option Addr) (sl : Array (Option Value)) (u : Tok) :
    Meets (Builtin.«tuple.__mul__» ⟨[.ref l, .int 1 u], []⟩) (fun _ R s => s.heap.get? l = some { cls := .type "tuple", dict := dd, data := .seq items n, slots := sl } ∧ R (.ok (.ret (Value.ref l))) s) :=
  .of_wp fun prog w A R s h => by
    obtain ⟨hp, g, d, tk, os⟩ := s
    obtain ⟨hl, h⟩ := h
    have f1 := AutoSeq1.idx_int
    wp_walk using wpAny_loadPart' hl
    repeat (first
      | (refine wpAny_ite_false (by decide) ?_; wp_walk using wpAny_loadPart' hl)
      | (refine wpAny_ite_true (by simp) ?_; wp_walk using wpAny_loadPart' hl))
    exact ⟨_, rfl, h⟩
def rRep1T (K : PySem.W.Frag) : R2 := fun x y H Q => ∃ l xs, x = .ref l ∧ y = .int 1 ∧ SqT K H l xs ∧ Q (.ref l) H
theorem op_rep1T {X : Cx} : OpR X (binaryOp .Mult) (rRep1T X.K) := by
  intro pins s σ H x y v u Q I rx ry h
  obtain ⟨l, xs, rfl, rfl, hT, q⟩ := h
  cases rx
  obtain ⟨t, rfl⟩ := ry
  obtain ⟨its, r, ⟨⟨cls, dd, data, sl⟩, ho, hc, n, hd⟩, hs⟩ := I.tuple hT
  simp only at hc hd
  subst hc hd
  refine wpAny_binaryOp_repeat_ref (T := "tuple") (U := "int") (by decide) ⟨_, ho, rfl⟩ (fun s' => typeIs_int s' 1 t) noFill_tuple_mul F.fills_int_mul F.slot_int_rmul repeat_tuple F.slot_int_index.lookup
    (call_meets F.slot_int_rmul (typeIs_int s 1 t) F.entry_int_rmul (F.args_int_rmul_2 _ _) (int_rmul_tuple 1 t l its.toArray n dd sl)
      ⟨ho, rfl, ⟨_, ho, rfl⟩, call_meets F.slot_tuple_mul ⟨_, ho, rfl⟩ F.entry_tuple_mul (F.args_tuple_mul_2 _ _) (tuple_mulW1 l its.toArray n dd sl t) ⟨ho, ?_⟩⟩)
  exact ⟨.ref l, _, I, rfl, q⟩
theorem bo_rep1T {xs : List D} (q : P (.tup xs) ω) : BO c (binaryOp .Mult) ρ (.tup xs) (.int 1) ω P := by
  intro M G0 H0 G H σ v w pr S r1 r2 Q k
  obtain ⟨a, vs, rfl, ha, rv⟩ := r1
  cases r2
  exact WB.of op_rep1T ⟨a, vs, rfl, rfl, S.gh.sqT ha, k _ G H (.tup xs) ω S (Ex.refl G) ⟨a, vs, rfl, ha, rv⟩ q⟩
theorem bo_repPT {xs : List D} {n : Int} (hne : xs ≠ []) (h1 : 1 ≤ n) (h2 : n ≤ 1000) (hl : xs.length ≤ 1000) (q : P (.tup (List.replicate n.toNat xs).flatten) ω) : BO c (binaryOp .Mult) ρ (.tup xs) (.int n) ω P := by
  by_cases e : n = 1
  · subst e
    refine bo_rep1T ?_
    have e2 : (List.replicate (1 : Int).toNat xs).flatten = xs := by simp
    rwa [e2] at q
  · exact bo_repT hne (by omega) h2 hl q
end
section
variable {c : Cz} {ρ : Rho} {ω : List Cel} {W : PD} {pos : Pos} {a b e : Expr}
/-- a, b, c = x, y, z of plain locals -/
theorem s1_par3 (i j l : Nat) {x y z : Str} {px py pz pt : Pos} {kt k2 pt2} (hi : c.X.N[i]? = some x) (hj : c.X.N[j]? = some y) (hl : c.X.N[l]? = some z) (hx : c.X.env.scope.names.lookup x = some .local) (hy : c.X.env.scope.names.lookup y = some .local) (hz : c.X.env.scope.names.lookup z = some .local)
    (h : EW c a ρ ω fun d ω1 => EW c b ρ ω1 fun d' ω2 => EW c e ρ ω2 fun d'' ω3 => W.nx (((ρ.set i (some d)).set j (some d')).set l (some d'')) ω3) (hij : i ≠ j := by decide) (hil : i ≠ l := by decide) (hjl : j ≠ l := by decide)
    (hw : swappedStores [.Tuple [.Name x px, .Name y py, .Name z pz] kt pt] (.Tuple [a, b, e] k2 pt2) c.X.env = pure (some [x, y, z]) := by rfl)
    (hs : swapsWithSole [.Tuple [.Name x px, .Name y py, .Name z pz] kt pt] (.Tuple [a, b, e] k2 pt2) pos.line c.X.env = pure false := by rfl)
    (s1 : starEach [a, b, e] c.X.env = (false, eval a c.X.env) :: starEach [b, e] c.X.env := by rfl) (s2 : starEach [b, e] c.X.env = (false, eval b c.X.env) :: starEach [e] c.X.env := by rfl) (s3 : starEach [e] c.X.env = (false, eval e c.X.env) :: starEach [] c.X.env := by rfl) :
    SW1 c (.Assign [.Tuple [.Name x px, .Name y py, .Name z pz] kt pt] (.Tuple [a, b, e] k2 pt2) pos) ρ ω W := by
  intro M G0 H0 G H σ pr S De k pins s I
  refine (WS1.of (De := De) (ps_par3 pr.calm pr.nd hi hj hl hij hil hjl hx hy hz (pa_cons WE.pe (pa_cons WE.pe (pa_cons WE.pe pa_nil s3) s2) s1) hw hs) ?_) pins s I
  refine h M G0 H0 G H σ pr S _ fun w G1 H1 d1 ω1 S1 e1 r1 h1 => ?_
  refine h1 M G0 H0 G1 H1 σ pr S1 _ fun w' G2 H2 d2 ω2 S2 e2 r2 h2 => ?_
  refine h2 M G0 H0 G2 H2 σ pr S2 _ fun w'' G3 H3 d3 ω3 S3 e3 r3 q => ?_
  have li : i < σ.length := by rw [I.len]; exact (List.getElem?_eq_some_iff.mp hi).1
  have lj : j < σ.length := by rw [I.len]; exact (List.getElem?_eq_some_iff.mp hj).1
  have ll : l < σ.length := by rw [I.len]; exact (List.getElem?_eq_some_iff.mp hl).1
  exact ⟨w, w', w'', rfl, k.nx _ G3 H3 _ ω3 (((S3.store (r1.mono (e2.trans e3)) li).store (r2.mono e3) (by rw [List.length_set]; exact lj)).store r3 (by rw [List.length_set, List.length_set]; exact ll)) (e1.trans (e2.trans e3)) q⟩
end
/-- a statement, what holds behind it said beforehand -/
theorem s1_mid {c : Cz} {ρ : Rho} {ω : List Cel} {W : PD} {st : Stmt} (N : SK) (h : SW1 c st ρ ω { W with nx := N }) (n : ∀ ρ ω, N ρ ω → W.nx ρ ω) : SW1 c st ρ ω W :=
  fun M G0 H0 G H σ pr S De k => h M G0 H0 G H σ pr S De ⟨fun σ' G' H' ρ' ω' S a q => k.nx σ' G' H' ρ' ω' S a (n ρ' ω' q), k.rt, k.bk, k.ct⟩
/-- an expression, what holds behind it said beforehand -/
theorem ew_mid {c : Cz} {ρ : Rho} {ω : List Cel} {P : PK} {e : Expr} (P' : PK) (h : EW c e ρ ω P') (q : ∀ d ω', P' d ω' → P d ω') : EW c e ρ ω P := ew_imp h q
/-! ### x is None -/
def isNn : D → Bool
  | .non => true
  | _ => false
theorem R.isN {K : PySem.W.Frag} {H : Hp} {d : D} {w : V} (h : d.nv = true) (r : R K H d w) : decide (w = .non) = isNn d := by
  cases d with
  | non => cases r; rfl
  | bl b => cases r; rfl
  | int i => cases r; rfl
  | str x => cases r; rfl
  | tup xs => obtain ⟨a, vs, rfl, _⟩ := r; rfl
  | lst xs => obtain ⟨a, vs, rfl, _⟩ := r; rfl
  | v x => cases h
  | lk ns => obtain ⟨a, rfl, _⟩ := r; rfl
  | obj p => cases h
theorem bo_isN {c : Cz} {ρ : Rho} {ω : List Cel} {P : PK} {x : D} (h : x.nv = true) (q : P (.bl (isNn x)) ω) : BO c (compareOp .Is) ρ x .non ω P := by
  intro M G0 H0 G H σ v w pr S r1 r2 Q k
  cases r2
  exact WB.of op_isN ⟨rfl, k _ G H (.bl (isNn x)) ω S (Ex.refl G) (by rw [R.isN h r1]; rfl) q⟩
theorem bo_notN {c : Cz} {ρ : Rho} {ω : List Cel} {P : PK} {x : D} (h : x.nv = true) (q : P (.bl (!isNn x)) ω) : BO c (compareOp .IsNot) ρ x .non ω P := by
  intro M G0 H0 G H σ v w pr S r1 r2 Q k
  cases r2
  exact WB.of op_notN ⟨rfl, k _ G H (.bl (!isNn x)) ω S (Ex.refl G) (by rw [← R.isN h r1]; rfl) q⟩
theorem bo_isNv {c : Cz} {ρ : Rho} {ω : List Cel} {P : PK} {p : Addr} (q : P (.bl false) ω) : BO c (compareOp .Is) ρ (.v (.ref p)) .non ω P := by
  intro M G0 H0 G H σ v w pr S r1 r2 Q k
  cases r2; cases r1
  exact WB.of op_isN ⟨rfl, k _ G H (.bl false) ω S (Ex.refl G) rfl q⟩
end DL

namespace DL
open PySem PySem.Spec PyProof.Rows L2
/-! ### texts -/
section
variable {c : Cz} {ρ : Rho} {ω : List Cel} {P : PK} {e o f : Expr} {pos apos : Pos} {x : D} {a b z : Str} {i : Int}
theorem bo_addS (hz : a.length + b.length ≤ sizeLine) (q : P (.str (a ++ b)) ω) : BO c (binaryOp .Add) ρ (.str a) (.str b) ω P := by
  intro M G0 H0 G H σ v w pr S r1 r2 Q k
  cases r1; cases r2
  exact WB.of op_add_str ⟨a, b, rfl, rfl, hz, k _ G H (.str (a ++ b)) ω S (Ex.refl G) rfl q⟩
theorem dec_vs : decide (V.str a = V.str b) = decide (a = b) := by
  rw [decide_eq_decide]
  exact ⟨fun e => V.str.inj e, fun e => congrArg _ e⟩
theorem bo_eqS (q : P (.bl (decide (a = b))) ω) : BO c (compareOp .Eq) ρ (.str a) (.str b) ω P := by
  intro M G0 H0 G H σ v w pr S r1 r2 Q k
  cases r1; cases r2
  exact WB.of op_eq ⟨rfl, by rw [dec_vs]; exact k _ G H (.bl (decide (a = b))) ω S (Ex.refl G) rfl q⟩
theorem bo_neS (q : P (.bl (!decide (a = b))) ω) : BO c (compareOp .NotEq) ρ (.str a) (.str b) ω P := by
  intro M G0 H0 G H σ v w pr S r1 r2 Q k
  cases r1; cases r2
  exact WB.of op_ne ⟨rfl, by rw [dec_vs]; exact k _ G H (.bl (!decide (a = b))) ω S (Ex.refl G) rfl q⟩
/-- str(i) -/
theorem co_strI (h : i.natAbs.log2 < 1920) (q : P (.str (toString i)) ω) : CO c (.type "str") ρ [.int i] ω P := by
  intro M G0 H0 G H σ vs pr S r Q k
  obtain ⟨w, t, rfl, r1, e⟩ := r
  cases e; cases r1
  exact WC.of call_str_int ⟨i, rfl, h, k _ G H (.str (toString i)) ω S (Ex.refl G) rfl q⟩
/-- int(text) -/
theorem co_intS (h : PySem.intText? a = some i) (hl : a.length ≤ 640) (q : P (.int i) ω) : CO c (.type "int") ρ [.str a] ω P := by
  intro M G0 H0 G H σ vs pr S r Q k
  obtain ⟨w, t, rfl, r1, e⟩ := r
  cases e; cases r1
  exact WC.of call_int_str ⟨a, i, rfl, h, hl, k _ G H (.int i) ω S (Ex.refl G) rfl q⟩
/-- len(text) -/
theorem co_lenS (h : a.length ≤ sizeLine) (q : P (.int a.length) ω) : CO c (.builtin "len") ρ [.str a] ω P := by
  intro M G0 H0 G H σ vs pr S r Q k
  obtain ⟨w, t, rfl, r1, e⟩ := r
  cases e; cases r1
  exact WC.of call_len ⟨_, a.length, rfl, ⟨h, rfl⟩, k _ G H (.int a.length) ω S (Ex.refl G) rfl q⟩
theorem RS.strs {K : PySem.W.Frag} {G : Hp} : ∀ {ns : List Str} {vs : List V}, RS K G (ns.map D.str) vs → vs = ns.map V.str
  | [], _, h => h
  | _ :: _, _, ⟨v, q, h1, h2, h3⟩ => by
    subst h1
    rw [show v = _ from h2, RS.strs h3]; rfl
theorem RS.of_strs {K : PySem.W.Frag} {G : Hp} (ns : List Str) : RS K G (ns.map D.str) (ns.map V.str) := by
  induction ns with
  | nil => rfl
  | cons n r ih => exact ⟨_, _, rfl, rfl, ih⟩
/-- sep.join(e), e a list of texts -/
theorem ew_join (h : EW c o ρ ω fun x ω1 => ∃ a, x = .str a ∧ EW c e ρ ω1 fun y ω2 => ∃ (ys : List Str), Vw ω2 y (.lst (ys.map D.str)) ∧ (ys.map (·.length)).sum + ys.length * a.length ≤ 16777216 ∧ P (.str (Txt.join a ys)) ω2)
    (hs : starEach [e] c.X.env = [(false, eval e c.X.env)] := by rfl) (hbase : attributeBase o "join" c.X.env (eval o c.X.env) = eval o c.X.env := by rfl) (hline : (apos.endLine == pos.line) = true := by rfl) :
    EW c (.Call (.Attribute o "join" apos) [e] [] pos) ρ ω P := by
  intro M G0 H0 G H σ pr S Q k
  refine WE.of (pe_join WE.pe WE.pe hs hbase hline) ?_
  refine h M G0 H0 G H σ pr S _ fun w G1 H1 d ω1 S1 e1 r1 ⟨a, ed, h1⟩ => ?_
  subst ed
  cases r1
  refine ⟨⟨a, rfl⟩, ?_⟩
  refine h1 M G0 H0 G1 H1 σ pr S1 _ fun w2 G2 H2 d2 ω2 S2 e2 r2 ⟨ys, hv, hz, q⟩ => ?_
  obtain ⟨p, vs, ew, hr, rv⟩ := S2.vwL hv r2
  subst ew
  have := rv.strs
  subst this
  exact ⟨a, p, ys, rfl, rfl, .inl (.inl hr), hz, k _ G2 H2 (.str (Txt.join a ys)) ω2 S2 (e1.trans e2) rfl q⟩
/-- s.split(sep) -/
theorem ew_split (h : EW c o ρ ω fun x ω1 => ∃ a, x = .str a ∧ EW c e ρ ω1 fun y ω2 => ∃ b, y = .str b ∧ (b.length == 0) = false ∧ a.length + 2 ≤ sizeLine ∧ P (.lst ((Txt.split a b).map D.str)) ω2)
    (hs : starEach [e] c.X.env = [(false, eval e c.X.env)] := by rfl) (hbase : attributeBase o "split" c.X.env (eval o c.X.env) = eval o c.X.env := by rfl) (hline : (apos.endLine == pos.line) = true := by rfl) :
    EW c (.Call (.Attribute o "split" apos) [e] [] pos) ρ ω P := by
  intro M G0 H0 G H σ pr S Q k
  refine WE.of (pe_split WE.pe WE.pe hs hbase hline) ?_
  refine h M G0 H0 G H σ pr S _ fun w G1 H1 d ω1 S1 e1 r1 ⟨a, ed, h1⟩ => ?_
  subst ed
  cases r1
  refine ⟨⟨a, rfl⟩, ?_⟩
  refine h1 M G0 H0 G1 H1 σ pr S1 _ fun w2 G2 H2 d2 ω2 S2 e2 r2 ⟨b, ed, hb, hz, q⟩ => ?_
  subst ed
  cases r2
  refine ⟨a, b, rfl, rfl, hb, hz, fun p np => ?_⟩
  obtain ⟨S3, e3, r3⟩ := S2.layL np (RS.of_strs (K := c.X.K) (G := G2) (Txt.split a b))
  exact k _ _ _ _ ω2 S3 (e1.trans (e2.trans e3)) r3 q
/-! ### x in a tuple, a list of flat data -/
def flatD : D → Option V
  | .non => some .non
  | .bl b => some (.bl b)
  | .int i => some (.int i)
  | .str x => some (.str x)
  | _ => none
def flatsD (ds : List D) : Option (List V) := ds.mapM flatD
theorem R.flat {K : PySem.W.Frag} {G : Hp} {d : D} {w v : V} (r : R K G d w) (h : flatD d = some v) : w = v ∧ flatV v = true := by
  cases d <;> simp [flatD] at h <;> subst h <;> cases r <;> exact ⟨rfl, rfl⟩
theorem RS.flat {K : PySem.W.Frag} {G : Hp} : ∀ {ds : List D} {vs us : List V}, RS K G ds vs → flatsD ds = some us → vs = us ∧ us.all flatV = true
  | [], _, _, h, e => by cases h; cases e; exact ⟨rfl, rfl⟩
  | d :: ds, _, us, ⟨v, r, h1, h2, h3⟩, e => by
    subst h1
    unfold flatsD at e
    rw [List.mapM_cons] at e
    cases q : flatD d with
    | none => rw [q] at e; cases e
    | some x =>
      rw [q] at e
      cases q2 : List.mapM flatD ds with
      | none => rw [q2] at e; cases e
      | some y =>
        rw [q2] at e
        cases e
        obtain ⟨a1, a2⟩ := h2.flat q
        obtain ⟨b1, b2⟩ := RS.flat h3 q2
        subst a1 b1
        exact ⟨rfl, by rw [List.all_cons, a2, b2]; rfl⟩
theorem bo_inT {xs : List D} {v : V} {vs : List V} (hx : flatD x = some v) (hs : flatsD xs = some vs) (q : P (.bl (inV v vs)) ω) : BO c (compareOp .In) ρ x (.tup xs) ω P := by
  intro M G0 H0 G H σ w u pr S r1 r2 Q k
  obtain ⟨p, us, rfl, ht, rv⟩ := r2
  obtain ⟨e1, f1⟩ := r1.flat hx
  obtain ⟨e2, f2⟩ := rv.flat hs
  subst e1 e2
  exact WB.of op_in_seq ⟨p, us, rfl, .inr (S.gh.sqT ht), f1, f2, k _ G H (.bl (inV w us)) ω S (Ex.refl G) rfl q⟩
theorem bo_notInT {xs : List D} {v : V} {vs : List V} (hx : flatD x = some v) (hs : flatsD xs = some vs) (q : P (.bl (!inV v vs)) ω) : BO c (compareOp .NotIn) ρ x (.tup xs) ω P := by
  intro M G0 H0 G H σ w u pr S r1 r2 Q k
  obtain ⟨p, us, rfl, ht, rv⟩ := r2
  obtain ⟨e1, f1⟩ := r1.flat hx
  obtain ⟨e2, f2⟩ := rv.flat hs
  subst e1 e2
  exact WB.of op_notIn_seq ⟨p, us, rfl, .inr (S.gh.sqT ht), f1, f2, k _ G H (.bl (!inV w us)) ω S (Ex.refl G) rfl q⟩
theorem bo_inL {xs : List D} {y : D} {v : V} {vs : List V} (hy : Vw ω y (.lst xs)) (hx : flatD x = some v) (hs : flatsD xs = some vs) (q : P (.bl (inV v vs)) ω) : BO c (compareOp .In) ρ x y ω P := by
  intro M G0 H0 G H σ w u pr S r1 r2 Q k
  obtain ⟨p, us, rfl, ht, rv⟩ := S.vwL hy r2
  obtain ⟨e1, f1⟩ := r1.flat hx
  obtain ⟨e2, f2⟩ := rv.flat hs
  subst e1 e2
  exact WB.of op_in_seq ⟨p, us, rfl, .inl (.inl ht), f1, f2, k _ G H (.bl (inV w us)) ω S (Ex.refl G) rfl q⟩
/-- X.index(x), X a tuple of texts of the module -/
theorem ew_indexG {x : Str} {p : Addr} {p0 : Pos} {ys : List Str} (hg : Gl c.X x) (hm : c.X.mg x = some (.ref p)) (hk : ∃ o, c.X.K.lookup p = some o ∧ o.cls = .type "tuple" ∧ o.dict = none) (ht : SqT c.X.K (fun _ => none) p (ys.map V.str))
    (h : EW c e ρ ω fun y ω2 => ∃ z j, y = .str z ∧ ys[j]? = some z ∧ (∀ m, m < j → ys[m]? ≠ some z) ∧ P (.int (j : Nat)) ω2)
    (hbase : attributeBase (.Name x p0) "index" c.X.env (eval (.Name x p0) c.X.env) = eval (.Name x p0) c.X.env := by rfl)
    (hfew : ((backTo pos (starEach [e] c.X.env)).all (fun x => !x.1) && (backToKw pos (keywordEach [] c.X.env)).all (fun x => x.1.isSome)
      && decide ([e].length + ([] : List Keyword).length + (if ([] : List Keyword).isEmpty then 0 else 1) < 30)) = true := by rfl)
    (hline : (apos.endLine == pos.line) = true := by rfl) (hs : starEach [e] c.X.env = (false, eval e c.X.env) :: starEach [] c.X.env := by rfl) (hplain : (backTo pos (starEach [] c.X.env)).any (·.1) = false := by rfl) (hd : (x == ("__debug__" : Str)) = false := by decide) :
    EW c (.Call (.Attribute (.Name x p0) "index" apos) [e] [] pos) ρ ω P := by
  intro M G0 H0 G H σ pr S Q k
  refine WE.of (pe_bm PySem.F.plainAttrs_tuple PySem.F.slot_tuple_index PySem.F.type_tuple_index mt_tup_index (pe_glob (v := .ref p) hg hm rfl hd) (pa_cons WE.pe pa_nil hs) hbase hfew hline hs hplain) ?_
  refine ⟨.inr (.inl ⟨rfl, hk⟩), ?_⟩
  refine h M G0 H0 G H σ pr S _ fun w2 G2 H2 d ω2 S2 e2 r2 ⟨z, j, ed, hj, hm, q⟩ => ?_
  subst ed
  cases r2
  have ht2 : SqT c.X.K H2 p (ys.map V.str) := by
    rcases ht with (ht | ⟨_, ht⟩) | ht
    · cases ht
    · cases ht
    · exact .inr ht
  exact ⟨p, ys, z, j, rfl, rfl, ht2, hj, hm, k _ G2 H2 (.int (j : Nat)) ω2 S2 e2 rfl q⟩
/-- list(t), t a tuple, to be written -/
theorem co_listTO {xs : List D} (q : ∀ p, P (.v (.ref p)) (ω ++ [⟨p, false, .lst xs⟩])) : CO c (.type "list") ρ [.tup xs] ω P := by
  intro M G0 H0 G H σ vs pr S r Q k
  obtain ⟨w, t, rfl, r1, e⟩ := r
  cases e
  obtain ⟨a, us, rfl, ht, rv⟩ := r1
  refine WC.of call_list_of ⟨a, us, rfl, .inr (S.gh.sqT ht), fun p np => ?_⟩
  exact k _ G _ (.v (.ref p)) _ (S.layO np rv) (Ex.refl G) rfl (q p)
end
end DL

namespace DL
open PySem PySem.Spec PyProof.Rows L2
/-! ### dicts with keys that are ints or texts -/
def keyD : Key → D
  | .inl i => .int i
  | .inr x => .str x
def valD (kvs : List (Key × D)) (k : Key) : Option D := (kvs.find? fun p => decide (p.1 = k)).map (·.2)
def putD (kvs : List (Key × D)) (k : Key) (d : D) : List (Key × D) :=
  if (kvs.any fun p => decide (p.1 = k)) = true then kvs.map (fun p => if p.1 = k then (p.1, d) else p) else kvs ++ [(k, d)]
def KVR (K : PySem.W.Frag) (G : Hp) (kvs : List (Key × D)) (kv : List (Key × V)) : Prop := kv.map (·.1) = kvs.map (·.1) ∧ RS K G (kvs.map (·.2)) (kv.map (·.2))
section
variable {K : PySem.W.Frag} {G G' : Hp}
theorem R.key {k : Key} {w : V} (r : R K G (keyD k) w) : w = kV k := by cases k <;> exact r
theorem KVR.mono (e : Ex G G') {kvs : List (Key × D)} {kv : List (Key × V)} (h : KVR K G kvs kv) : KVR K G' kvs kv := ⟨h.1, h.2.mono e⟩
theorem KVR.cons {p : Key × D} {kvs : List (Key × D)} {kv : List (Key × V)} (h : KVR K G (p :: kvs) kv) : ∃ v r, kv = (p.1, v) :: r ∧ R K G p.2 v ∧ KVR K G kvs r := by
  obtain ⟨h1, h2⟩ := h
  cases kv with
  | nil => cases h1
  | cons q r =>
    obtain ⟨v, t, e1, e2, e3⟩ := h2
    have e : q.2 = v ∧ r.map (·.2) = t := List.cons.inj e1
    have f : q.1 = p.1 ∧ r.map (·.1) = kvs.map (·.1) := List.cons.inj h1
    refine ⟨q.2, r, ?_, by rw [e.1]; exact e2, f.2, by rw [e.2]; exact e3⟩
    rw [← f.1]
theorem KVR.val : ∀ {kvs : List (Key × D)} {kv : List (Key × V)} (k : Key), KVR K G kvs kv → (valD kvs k = none ∧ valV kv k = none) ∨ ∃ d v, valD kvs k = some d ∧ valV kv k = some v ∧ R K G d v
  | [], kv, k, h => by
    cases kv with
    | nil => exact .inl ⟨rfl, rfl⟩
    | cons q r => cases h.1
  | p :: kvs, kv, k, h => by
    obtain ⟨v, r, rfl, h1, h2⟩ := h.cons
    by_cases e : p.1 = k
    · exact .inr ⟨p.2, v, by simp [valD, List.find?_cons, e], by rw [valV_pos (p := (p.1, v)) e], h1⟩
    · have a : valD (p :: kvs) k = valD kvs k := by simp [valD, List.find?_cons, e]
      rw [a, valV_neg (p := (p.1, v)) e]
      exact KVR.val k h2
theorem KVR.len {kvs : List (Key × D)} {kv : List (Key × V)} (h : KVR K G kvs kv) : kv.length = kvs.length := by
  have := congrArg List.length h.1
  simpa using this
theorem KVR.put {kvs : List (Key × D)} {kv : List (Key × V)} (h : KVR K G kvs kv) (k : Key) {d : D} {v : V} (r : R K G d v) : KVR K G (putD kvs k d) (putK kv k v) := by
  have ea : (kv.any fun p => decide (p.1 = k)) = (kvs.any fun p => decide (p.1 = k)) := by
    have a1 : (kv.any fun p => decide (p.1 = k)) = (kv.map (·.1)).any fun x => decide (x = k) := by rw [List.any_map]; rfl
    have a2 : (kvs.any fun p => decide (p.1 = k)) = (kvs.map (·.1)).any fun x => decide (x = k) := by rw [List.any_map]; rfl
    rw [a1, a2, h.1]
  unfold putD putK
  rw [ea]
  split
  · have key : ∀ {kvs : List (Key × D)} {kv : List (Key × V)}, KVR K G kvs kv → KVR K G (kvs.map fun p => if p.1 = k then (p.1, d) else p) (kv.map fun p => if p.1 = k then (p.1, v) else p) := fun {kvs} => by
      induction kvs with
      | nil =>
        intro kv h
        cases kv with
        | nil => exact ⟨rfl, rfl⟩
        | cons q r => cases h.1
      | cons p kvs ih =>
        intro kv h
        obtain ⟨u, t, rfl, h1, h2⟩ := h.cons
        obtain ⟨i1, i2⟩ := ih h2
        rw [List.map_cons, List.map_cons]
        by_cases e : p.1 = k
        · simp only [if_pos e]
          exact ⟨by rw [List.map_cons, List.map_cons, i1], v, _, rfl, r, i2⟩
        · simp only [if_neg e]
          exact ⟨by rw [List.map_cons, List.map_cons, i1], u, _, rfl, h1, i2⟩
    exact key h
  · refine ⟨by rw [List.map_append, List.map_append, h.1]; rfl, ?_⟩
    rw [List.map_append, List.map_append]
    exact h.2.append (RS.one r)
end
/-- a dict that is written no more -/
def dctD (K : PySem.W.Frag) (kvs : List (Key × D)) : D := .obj ⟨fun G w => ∃ a o kv, w = .ref a ∧ G a = some (.frz o (.dK kv)) ∧ KVR K G kvs kv, fun e ⟨a, o, kv, h1, h2, h3⟩ => ⟨a, o, kv, h1, e _ _ h2, h3.mono e⟩⟩
/-- data that no object stands in -/
def scal : D → Bool
  | .non => true
  | .bl _ => true
  | .int _ => true
  | .str _ => true
  | _ => false
theorem R.scal {K : PySem.W.Frag} {G G' : Hp} {d : D} {w : V} (h : scal d = true) (r : R K G d w) : R K G' d w := by cases d <;> first | exact r | cases h
section
variable {K : PySem.W.Frag} {T : List (Addr × Str)} {M : List Addr} {G0 H0 G H : Hp} {σ : L2.St} {ρ : List (Option D)} {ω : List Cel}
/-- a dict's cell is written no more: its place is locked -/
theorem SI.lockD (S : SI K T M G0 H0 G H σ ρ ω) {j i : Nat} {p : Addr} {kvs : List (Key × D)} (hc : ω[j]? = some ⟨p, false, .dK kvs⟩) (hi : ρ[i]? = some (some (.v (.ref p)))) :
    ∃ kv, H p = some (.dK kv) ∧ G p = none ∧ NT (H0 p) ∧ ∀ od, ∃ G', Ex G G' ∧ G' p = some (.frz od (.dK kv)) ∧ SI K T M G0 H0 G' (upd H p (.frz od (.dK kv))) σ (ρ.set i (some (dctD K kvs))) (ω.eraseIdx j) := by
  have hm := List.mem_of_getElem? hc
  obtain ⟨h1, h2, kv, e, hk, r⟩ := S.own _ hm
  have h1 : G p = none := h1
  have e : H p = some (.dK kv) := e
  have h2 : NT (H0 p) := h2 rfl
  refine ⟨kv, e, h1, h2, fun od => ?_⟩
  have gx : Ex G (upd G p (.frz od (.dK kv))) := Ex.new h1
  have ne : ∀ c ∈ ω.eraseIdx j, c.a ≠ p := fun c hc' q => by
    obtain ⟨i, hi⟩ := List.mem_iff_getElem?.mp hc'
    rw [List.getElem?_eraseIdx] at hi
    split at hi
    · have := nd_cel S.nd hi hc q; omega
    · have := nd_cel S.nd hi hc q; omega
  have hsub : ∀ c ∈ ω.eraseIdx j, c ∈ ω := fun c h => List.mem_of_mem_eraseIdx h
  have nop : ∀ o, H0 p = some o → (∀ ps, o ≠ .tbl ps) → False := fun o q t => by
    rcases h2 with z | ⟨ps, z⟩
    · rw [q] at z; cases z
    · rw [q] at z; exact t ps (Option.some.inj z)
  refine ⟨upd G p (.frz od (.dK kv)), gx, upd_same, ⟨⟨S.adv.gg.trans gx, fun a u q => ?_, fun a u q n t => ?_, fun a n q => ?_, fun q hq => ?_, fun a u q => ?_⟩, by rw [List.length_set]; exact S.len, fun k d q => ?_, fun c q => ?_, ?_, ?_⟩⟩
  · by_cases h : a = p
    · subst h; rw [upd_same] at q ⊢; exact q
    · rw [upd_ne h] at q ⊢; exact S.gh a u q
  · by_cases h : a = p
    · subst h; exact (nop u q t).elim
    · rw [upd_ne h]; exact S.adv.keep a u q n t
  · by_cases h : a = p
    · subst h; exact h2
    · rw [upd_ne h] at q; exact S.adv.sep a n q
  · obtain ⟨ps, a1, a2, a3⟩ := S.adv.tab q hq
    refine ⟨ps, ?_, a2, fun pos cv hcv => ?_⟩
    · rw [upd_ne (fun z => by rw [z, e] at a1; cases a1)]; exact a1
    · obtain ⟨c', e1, e2⟩ := a3 pos cv hcv
      refine ⟨c', e1, ?_⟩
      rw [upd_ne (fun z => by
        rw [z, e] at e2
        have e3 : HO.dK kv = .ext _ := Option.some.inj e2
        cases e3)]
      exact e2
  · by_cases h : a = p
    · subst h; rw [upd_same] at q; cases q; exact True.intro
    · rw [upd_ne h] at q; exact S.adv.fz a u q
  · by_cases h : i = k
    · subst h
      obtain ⟨w, q1, q2⟩ := S.env i _ hi
      have hl : i < ρ.length := (List.getElem?_eq_some_iff.mp hi).1
      rw [List.getElem?_set_self hl] at q
      cases q
      have q2 : w = .ref p := q2
      subst q2
      exact ⟨_, q1, p, od, kv, rfl, upd_same, hk, r.mono gx⟩
    · rw [List.getElem?_set_ne h] at q
      obtain ⟨w, e1, r1⟩ := S.env k d q
      exact ⟨w, e1, r1.mono gx⟩
  · obtain ⟨g1, g2, g3⟩ := S.own c (hsub c q)
    exact ⟨by rw [upd_ne (ne c q)]; exact g1, g2, g3.step gx (upd_ne (ne c q))⟩
  · exact S.nd.sublist ((List.eraseIdx_sublist ω j).map _)
  · rw [← S.mm]
    have key : ∀ (l : List Cel) (j : Nat) (c : Cel), l[j]? = some c → c.m = false → (l.eraseIdx j).filter Cel.m = l.filter Cel.m := by
      intro l
      induction l with
      | nil => intro j c h; simp at h
      | cons x l ih =>
        intro j c h hm
        cases j with
        | zero =>
          simp only [List.getElem?_cons_zero, Option.some.injEq] at h
          subst h
          rw [List.eraseIdx_cons_zero, List.filter_cons, hm]
          rfl
        | succ j =>
          rw [List.eraseIdx_cons_succ, List.filter_cons, List.filter_cons, ih j c (by simpa using h) hm]
    rw [key ω j _ hc rfl]
end
section
variable {c : Cz} {ρ : Rho} {ω : List Cel} {P : PK} {W : PD} {e o i f value : Expr} {pos pos' apos : Pos} {x : D} {rest : List Stmt} {tg : Expr}
/-- the rest of a block, a dict locked; what it returns is scal -/
theorem sw_lock (j k : Nat) {p : Addr} {kvs : List (Key × D)} (hc : ω[j]? = some ⟨p, false, .dK kvs⟩) (hi : ρ[k]? = some (some (.v (.ref p)))) (hm : ω.filter Cel.m = [])
    (h : SW c rest (ρ.set k (some (dctD c.X.K kvs))) (ω.eraseIdx j) { nx := fun _ _ => False, rt := fun d _ => scal d = true ∧ W.rt d [] }) : SW c rest ρ ω W := by
  intro M G0 H0 G H σ pr S De kn pins s I
  have hM : M = [] := by rw [← S.mm, hm]; rfl
  obtain ⟨kv, eH, eG, e0, hl⟩ := S.lockD hc hi
  obtain ⟨od, I1⟩ := I.lock eH True.intro
  obtain ⟨G1, g1, gp, S1⟩ := hl od
  have run := h M G0 H0 G1 _ σ pr S1 ⟨fun _ _ => False, fun v H' => H' p = some (.frz od (.dK kv)) ∧ De.rt v (upd H' p (.dK kv)), fun _ _ => False, fun _ _ => False⟩ ⟨fun _ _ _ _ _ _ _ q => q, fun w σ' G5 H5 ρ' d ω5 S5 e5 r5 ⟨sc, q⟩ => ?_, fun _ _ _ _ _ _ _ q => q, fun _ _ _ _ _ _ _ q => q⟩ pins s I1
  · refine thn run fun f s1 q => ?_
    cases f with
    | next => obtain ⟨_, _, _, q⟩ := q; exact q.elim
    | brk => obtain ⟨_, _, _, q⟩ := q; exact q.elim
    | cont => obtain ⟨_, _, _, q⟩ := q; exact q.elim
    | ret v => obtain ⟨x, σ', H', I2, r, e, q⟩ := q; exact ⟨x, σ', _, I2.unlock e (I.nofrz eH True.intro), r, q⟩
  · have ep5 : H5 p = some (.frz od (.dK kv)) := S5.gh _ _ (e5 _ _ gp)
    refine ⟨ep5, ?_⟩
    have nop : ∀ o, H0 p = some o → (∀ ps, o ≠ .tbl ps) → False := fun o q t => by
      rcases e0 with z | ⟨ps, z⟩
      · rw [q] at z; cases z
      · rw [q] at z; exact t ps (Option.some.inj z)
    refine kn.rt w σ' (fun a => if a = p then none else G5 a) (upd H5 p (.dK kv)) (List.replicate ρ'.length none) d [] ⟨⟨fun a o q => ?_, fun a o q => ?_, fun a o q n t => ?_, fun a n q => ?_, fun q hq => ?_, fun a o q => ?_⟩, by rw [List.length_replicate]; exact S5.len, fun k d q => ?_, (fun _ z => nomatch z), List.nodup_nil, hM.symm⟩ (fun a o q => ?_) (r5.scal sc) q
    · have z := S.adv.gg a o q
      show (if a = p then none else G5 a) = _
      rw [if_neg (fun h => by rw [h, eG] at z; cases z)]
      exact S5.adv.gg a o q
    · have q : (if a = p then none else G5 a) = some o := q
      by_cases h : a = p
      · rw [if_pos h] at q; cases q
      · rw [if_neg h] at q; rw [upd_ne h]; exact S5.gh a o q
    · by_cases h : a = p
      · subst h; exact (nop o q t).elim
      · rw [upd_ne h]; exact S5.adv.keep a o q n t
    · have q : (if a = p then none else G5 a) ≠ none := q
      by_cases h : a = p
      · rw [if_pos h] at q; exact absurd rfl q
      · rw [if_neg h] at q; exact S5.adv.sep a n q
    · obtain ⟨ps, a1, a2, a3⟩ := S5.adv.tab q hq
      refine ⟨ps, ?_, a2, fun pos cv hcv => ?_⟩
      · rw [upd_ne (fun z => by rw [z, ep5] at a1; cases a1)]; exact a1
      · obtain ⟨c', e1, e2⟩ := a3 pos cv hcv
        refine ⟨c', e1, ?_⟩
        rw [upd_ne (fun z => by
          rw [z, ep5] at e2
          have e3 : HO.frz od (.dK kv) = .ext _ := Option.some.inj e2
          cases e3)]
        exact e2
    · have q : (if a = p then none else G5 a) = some o := q
      by_cases h : a = p
      · rw [if_pos h] at q; cases q
      · rw [if_neg h] at q; exact S5.adv.fz a o q
    · rw [List.getElem?_replicate] at q
      split at q <;> cases q
    · show (if a = p then none else G5 a) = _
      rw [if_neg (fun h => by rw [h, eG] at q; cases q)]
      exact e5 a o (g1 a o q)
/-- {} -/
theorem ew_dnew (q : ∀ p, P (.v (.ref p)) (ω ++ [⟨p, false, .dK []⟩])) : EW c (.Dict [] [] pos) ρ ω P := by
  intro M G0 H0 G H σ pr S Q k
  refine WE.of pe_dnewK fun p np => ?_
  exact k (.ref p) G _ (.v (.ref p)) _ (S.cell (o := .dK []) np ⟨[], upd_same, rfl, rfl⟩) (Ex.refl G) rfl (q p)
/-- d[i] = value -/
theorem s1_dput (j : Nat) (h : EW c value ρ ω fun d ω1 => EW c o ρ ω1 fun x ω2 => EW c i ρ ω2 fun y ω3 => ∃ p m kvs k, x = .v (.ref p) ∧ ω3[j]? = some ⟨p, m, .dK kvs⟩ ∧ y = keyD k ∧ kvs.length < sizeLine ∧ W.nx ρ (put ω3 j (.dK (putD kvs k d))))
    (hs : swapsWith value (some (.Subscript o i pos')) pos.line c.X.env = pure false := by rfl) : SW1 c (.Assign [.Subscript o i pos'] value pos) ρ ω W := by
  intro M G0 H0 G H σ pr S De kn
  refine WS1.of (ps_dput (hu_of pr.room) WE.pe WE.pe WE.pe hs) ?_
  refine h M G0 H0 G H σ pr S _ fun w G1 H1 d ω1 S1 e1 r1 h1 => ?_
  refine h1 M G0 H0 G1 H1 σ pr S1 _ fun w2 G2 H2 x ω2 S2 e2 r2 h2 => ?_
  refine h2 M G0 H0 G2 H2 σ pr S2 _ fun w3 G3 H3 y ω3 S3 e3 r3 ⟨p, m, kvs, k, ex, hc, ey, hz, q⟩ => ?_
  subst ex ey
  have e2' : w2 = .ref p := r2
  subst e2'
  have e3' := R.key r3
  subst e3'
  obtain ⟨_, _, kv, eH, hk⟩ := S3.own _ (List.mem_of_getElem? hc)
  have hk : KVR c.X.K G3 kvs kv := hk
  refine ⟨p, _, rfl, DPut.k eH (by rw [hk.len]; exact hz), ?_⟩
  refine kn.nx σ G3 _ ρ _ (S3.wrO hc ?_) (e1.trans (e2.trans e3)) q
  have z := hk.put k (r1.mono (e2.trans e3))
  exact ⟨_, upd_same, z.1, z.2⟩
/-- d[y] of such a dict -/
theorem ew_dgetF (hsl : NoSl i) (h : EW c o ρ ω fun x ω1 => ∃ kvs, x = dctD c.X.K kvs ∧ EW c i ρ ω1 fun y ω2 => ∃ k d, y = keyD k ∧ valD kvs k = some d ∧ P d ω2) : EW c (.Subscript o i pos) ρ ω P := by
  intro M G0 H0 G H σ pr S Q kn
  refine WE.of (pe_dget (hu_of pr.room) WE.pe WE.pe hsl) ?_
  refine h M G0 H0 G H σ pr S _ fun w G1 H1 x ω1 S1 e1 r1 ⟨kvs, ex, h1⟩ => ?_
  subst ex
  obtain ⟨a, od, kv, ew, ha, hk⟩ := r1
  subst ew
  refine h1 M G0 H0 G1 H1 σ pr S1 _ fun w2 G2 H2 y ω2 S2 e2 r2 ⟨k, d, ey, hv, q⟩ => ?_
  subst ey
  have e2' := R.key r2
  subst e2'
  rcases (hk.mono e2).val k with ⟨z, _⟩ | ⟨d', v, z1, z2, z3⟩
  · rw [hv] at z; cases z
  · rw [hv] at z1
    cases z1
    exact ⟨a, v, rfl, .inl ⟨kv, k, .inr ⟨od, S2.gh _ _ (e2 _ _ ha)⟩, rfl, z2.symm⟩, kn v G2 H2 d ω2 S2 (e1.trans e2) z3 q⟩
/-- d.get(y, z) of such a dict -/
theorem ew_get2F (h : EW c o ρ ω fun x ω1 => ∃ kvs, x = dctD c.X.K kvs ∧ EW c e ρ ω1 fun y ω2 => EW c f ρ ω2 fun z ω3 => ∃ k, y = keyD k ∧ P ((valD kvs k).getD z) ω3) (m : M2 c.X o "get" apos e f pos := by exact ⟨by rfl, by rfl, by rfl, by rfl⟩) :
    EW c (.Call (.Attribute o "get" apos) [e, f] [] pos) ρ ω P := by
  intro M G0 H0 G H σ pr S Q kn
  refine WE.of (pe_dget2 (hu_of pr.room) WE.pe WE.pe WE.pe m) ?_
  refine h M G0 H0 G H σ pr S _ fun w G1 H1 x ω1 S1 e1 r1 ⟨kvs, ex, h1⟩ => ?_
  subst ex
  obtain ⟨a, od, kv, ew, ha, hk⟩ := r1
  subst ew
  refine ⟨a, rfl, .inl ⟨kv, .inr ⟨od, S1.gh _ _ ha⟩⟩, ?_⟩
  refine h1 M G0 H0 G1 H1 σ pr S1 _ fun w2 G2 H2 y ω2 S2 e2 r2 h2 => ?_
  refine h2 M G0 H0 G2 H2 σ pr S2 _ fun w3 G3 H3 z ω3 S3 e3 r3 ⟨k, ey, q⟩ => ?_
  subst ey
  have e2' := R.key r2
  subst e2'
  refine ⟨valV kv k, .inl ⟨kv, k, .inr ⟨od, S3.gh _ _ (e3 _ _ (e2 _ _ ha))⟩, rfl, rfl⟩, ?_⟩
  rcases (hk.mono (e2.trans e3)).val k with ⟨z1, z2⟩ | ⟨d', v, z1, z2, z3⟩
  · rw [z2]; rw [z1] at q
    exact kn w3 G3 H3 z ω3 S3 (e1.trans (e2.trans e3)) r3 q
  · rw [z2]; rw [z1] at q
    exact kn v G3 H3 d' ω3 S3 (e1.trans (e2.trans e3)) z3 q
/-- for k in d, d such a dict -/
theorem iw_keysF {PI' : Src → List Cel → Prop} (h : EW c e ρ ω fun d ω1 => ∃ kvs, d = dctD c.X.K kvs ∧ PI' (.seq (kvs.map fun p => keyD p.1)) ω1) : IW c tg e ρ ω PI' := by
  intro M G0 H0 G H σ pr S R' kn
  refine IWt.of (pi_keys WE.pe) ?_
  refine h M G0 H0 G H σ pr S _ fun w G1 H1 d ω1 S1 e1 r1 ⟨kvs, ed, q⟩ => ?_
  subst ed
  obtain ⟨a, od, kv, ew, ha, hk⟩ := r1
  have hlen : (Src.seq (kvs.map fun p => keyD p.1)).len = kv.length := by rw [hk.len]; show (List.map _ _).length = _; rw [List.length_map]
  refine ⟨a, od, ew, .inl ⟨kv, S1.gh _ _ ha, kn _ G1 H1 _ ω1 S1 e1 q (fun G2 H2 i g1 g2 => ?_) fun G2 H2 i w H3 g1 g2 fz tb hi y => ?_⟩⟩
  · rw [hlen]
    exact ⟨fun hl => ⟨g2 _ _ (g1 _ _ ha), hl⟩, fun hl => ⟨g2 _ _ (g1 _ _ ha), hl⟩⟩
  · obtain ⟨eH, k, v, hkv, ew⟩ := y
    subst eH ew
    refine ⟨G2, keyD k, Adv.refl g2 tb fz, ?_, by cases k <;> rfl⟩
    show (kvs.map fun p => keyD p.1)[i]? = _
    have z : (kv.map (·.1))[i]? = some k := by rw [List.getElem?_map, hkv]; rfl
    rw [hk.1, List.getElem?_map] at z
    rw [List.getElem?_map]
    cases hh : kvs[i]? with
    | none => rw [hh] at z; cases z
    | some p =>
      rw [hh] at z
      have : p.1 = k := Option.some.inj z
      simp [this]
end
/-! ### tuples of the module -/
def litV : D → V
  | .bl b => .bl b
  | .int i => .int i
  | .str x => .str x
  | _ => .non
theorem RS.lits {K : PySem.W.Frag} {G : Hp} : ∀ {ds : List D}, ds.all scal = true → RS K G ds (ds.map litV)
  | [], _ => rfl
  | d :: ds, h => by
    rw [List.all_cons, Bool.and_eq_true] at h
    exact ⟨litV d, _, rfl, by cases d <;> first | rfl | exact (by cases h.1), RS.lits h.2⟩
section
variable {c : Cz} {ρ : Rho} {ω : List Cel} {P : PK} {e : Expr} {pos apos p0 : Pos} {x : Str}
theorem ew_globT {ds : List D} {Pr : Addr → Prop} (h : ∃ p, c.X.mg x = some (.ref p) ∧ SqT c.X.K (fun _ => none) p (ds.map litV) ∧ Pr p) (hg : Gl c.X x) (q : P (.tup ds) ω) (hs : ds.all scal = true := by rfl) (hd : (x == ("__debug__" : Str)) = false := by decide) : EW c (.Name x pos) ρ ω P := by
  obtain ⟨p, hm, ht, _⟩ := h
  exact ew_glob (t := .ref p) (d := .tup ds) hm rfl ⟨p, _, rfl, ht, RS.lits hs⟩ hg q hd
theorem ew_indexK {ys : List Str} (hk : ∃ p, c.X.mg x = some (.ref p) ∧ SqT c.X.K (fun _ => none) p (ys.map V.str) ∧ ∃ o, c.X.K.lookup p = some o ∧ o.cls = .type "tuple" ∧ o.dict = none) (hg : Gl c.X x)
    (h : EW c e ρ ω fun y ω2 => ∃ z j, y = .str z ∧ ys[j]? = some z ∧ (∀ m, m < j → ys[m]? ≠ some z) ∧ P (.int (j : Nat)) ω2)
    (hbase : attributeBase (.Name x p0) "index" c.X.env (eval (.Name x p0) c.X.env) = eval (.Name x p0) c.X.env := by rfl)
    (hfew : ((backTo pos (starEach [e] c.X.env)).all (fun x => !x.1) && (backToKw pos (keywordEach [] c.X.env)).all (fun x => x.1.isSome)
      && decide ([e].length + ([] : List Keyword).length + (if ([] : List Keyword).isEmpty then 0 else 1) < 30)) = true := by rfl)
    (hline : (apos.endLine == pos.line) = true := by rfl) (hs : starEach [e] c.X.env = (false, eval e c.X.env) :: starEach [] c.X.env := by rfl) (hplain : (backTo pos (starEach [] c.X.env)).any (·.1) = false := by rfl) (hd : (x == ("__debug__" : Str)) = false := by decide) :
    EW c (.Call (.Attribute (.Name x p0) "index" apos) [e] [] pos) ρ ω P := by
  obtain ⟨p, hm, ht, hl⟩ := hk
  exact ew_indexG hg hm hl ht h hbase hfew hline hs hplain hd
end
/-! ### lengths of texts -/
theorem str_len (a b : Str) : (a ++ b).length = a.length + b.length := by rw [TL.len_tl, TL.len_tl, TL.len_tl, TL.tl_append, List.length_append]
theorem num_tl {i : Int} (h0 : 0 ≤ i) (h1 : i ≤ 9) : TL.tl (Str.ofString (toString i)) = [48 + i.toNat] := by
  have e : i = ((i.toNat : Nat) : Int) := by omega
  have z := TL.tl_num i.toNat
  rw [← e] at z
  exact z.trans (TL.numL_lt (by omega))
theorem num_len {i : Int} (h0 : 0 ≤ i) (h1 : i ≤ 9) : (Str.ofString (toString i)).length = 1 := by rw [TL.len_tl, num_tl h0 h1]; rfl
theorem log_small {i : Int} (h0 : -1 ≤ i) (h1 : i ≤ 9) : i.natAbs.log2 < 1920 := by
  have : i.natAbs < 2 ^ 1920 := Nat.lt_of_lt_of_le (by omega : i.natAbs < 16) (Nat.pow_le_pow_right (n := 2) (i := 4) (j := 1920) (by decide) (by decide))
  by_cases h : i.natAbs = 0
  · rw [h]; decide
  · exact (Nat.log2_lt h).mpr this
end DL

namespace Lw
open PySem PySem.Spec PyProof.Rows L2 DL
/-! ### the text (written by asm.py) -/
def topS (i : Nat) : Stmt := PySem.Challenge.pw_oneevent_k11_texts_of_clauses.main.body.getD i (.Pass ⟨0, 0, 0, 0⟩)
def inClass (s : Stmt) (j : Nat) : Stmt := match s with
  | .ClassDef (body := b) .. => b.getD j (.Pass ⟨0, 0, 0, 0⟩)
  | _ => .Pass ⟨0, 0, 0, 0⟩
abbrev s_is_int : Stmt := topS 18
theorem sc_is_int : FnScope ["value", "low", "high"] ["value", "low", "high"] (defScope s_is_int) := ⟨rfl, rfl, rfl, by decide +kernel, rfl, by decide +kernel, by decide +kernel⟩
abbrev s_fits : Stmt := topS 19
theorem sc_fits : FnScope ["value"] ["value"] (defScope s_fits) := ⟨rfl, rfl, rfl, by decide +kernel, rfl, by decide +kernel, by decide +kernel⟩
abbrev s_need_clause : Stmt := topS 20
theorem sc_need_clause : FnScope ["value"] ["value"] (defScope s_need_clause) := ⟨rfl, rfl, rfl, by decide +kernel, rfl, by decide +kernel, by decide +kernel⟩
abbrev s_text_of : Stmt := topS 24
theorem sc_text_of : FnScope ["clause", "some", "at", "word"] ["clause"] (defScope s_text_of) := ⟨rfl, rfl, rfl, by decide +kernel, rfl, by decide +kernel, by decide +kernel⟩
abbrev s_clause_in : Stmt := topS 25
theorem sc_clause_in : FnScope ["value", "found", "part", "words"] ["value"] (defScope s_clause_in) := ⟨rfl, rfl, rfl, by decide +kernel, rfl, by decide +kernel, by decide +kernel⟩
abbrev s_clause_text : Stmt := topS 26
theorem sc_clause_text : FnScope ["clause"] ["clause"] (defScope s_clause_text) := ⟨rfl, rfl, rfl, by decide +kernel, rfl, by decide +kernel, by decide +kernel⟩
abbrev s_read_clause : Stmt := topS 27
theorem sc_read_clause : FnScope ["value"] ["value"] (defScope s_read_clause) := ⟨rfl, rfl, rfl, by decide +kernel, rfl, by decide +kernel, by decide +kernel⟩
abbrev s_u_law_cup_of : Stmt := topS 29
theorem sc_u_law_cup_of : FnScope ["script", "k", "cell"] ["script", "k"] (defScope s_u_law_cup_of) := ⟨rfl, rfl, rfl, by decide +kernel, rfl, by decide +kernel, by decide +kernel⟩
abbrev s_u_law_drip : Stmt := topS 30
theorem sc_u_law_drip : FnScope ["cup", "many", "found", "wide"] ["cup", "many"] (defScope s_u_law_drip) := ⟨rfl, rfl, rfl, by decide +kernel, rfl, by decide +kernel, by decide +kernel⟩
abbrev s_u_law_some : Stmt := topS 31
theorem sc_u_law_some : FnScope ["cup", "things"] ["cup", "things"] (defScope s_u_law_some) := ⟨rfl, rfl, rfl, by decide +kernel, rfl, by decide +kernel, by decide +kernel⟩
abbrev s_u_law_rule : Stmt := topS 32
theorem sc_u_law_rule : FnScope ["cup", "gap", "span"] ["cup"] (defScope s_u_law_rule) := ⟨rfl, rfl, rfl, by decide +kernel, rfl, by decide +kernel, by decide +kernel⟩
abbrev s_u_law_word : Stmt := topS 33
theorem sc_u_law_word : FnScope ["call", "found", "e"] ["call"] (defScope s_u_law_word) := ⟨rfl, rfl, rfl, by decide +kernel, rfl, by decide +kernel, by decide +kernel⟩
abbrev s_u_law_writing : Stmt := topS 34
theorem sc_u_law_writing : FnScope ["rule", "some", "at", "word"] ["rule"] (defScope s_u_law_writing) := ⟨rfl, rfl, rfl, by decide +kernel, rfl, by decide +kernel, by decide +kernel⟩
abbrev s_u_law_table : Stmt := topS 35
theorem sc_u_law_table : FnScope ["found", "gap", "span", "rest", "rule"] [] (defScope s_u_law_table) := ⟨rfl, rfl, rfl, by decide +kernel, rfl, by decide +kernel, by decide +kernel⟩
abbrev s_u_law_tried : Stmt := topS 36
theorem sc_u_law_tried : FnScope ["value", "word"] ["value"] (defScope s_u_law_tried) := ⟨rfl, rfl, rfl, by decide +kernel, rfl, by decide +kernel, by decide +kernel⟩
abbrev s_u_law_bent : Stmt := topS 37
theorem sc_u_law_bent : FnScope ["cup", "text", "signs", "at"] ["cup", "text"] (defScope s_u_law_bent) := ⟨rfl, rfl, rfl, by decide +kernel, rfl, by decide +kernel, by decide +kernel⟩
abbrev s_law : Stmt := topS 38
theorem sc_law : FnScope ["script", "table", "k", "cup", "turn", "text", "again", "odd", "rows", "row"] ["script"] (defScope s_law) := ⟨rfl, rfl, rfl, by decide +kernel, rfl, by decide +kernel, by decide +kernel⟩
structure Txt (K : PySem.W.Frag) (mg : Str → Option Value) where
  a_is_int : Addr
  fd_is_int : FuncData
  F_is_int : Fun K "is_int" "is_int" s_is_int a_is_int fd_is_int
  B_is_int : Binds K fd_is_int ["value", "low", "high"] []
  g_is_int : mg "is_int" = some (.ref a_is_int)
  a_fits : Addr
  fd_fits : FuncData
  F_fits : Fun K "fits" "fits" s_fits a_fits fd_fits
  B_fits : Binds K fd_fits ["value"] []
  g_fits : mg "fits" = some (.ref a_fits)
  a_need_clause : Addr
  fd_need_clause : FuncData
  F_need_clause : Fun K "need_clause" "need_clause" s_need_clause a_need_clause fd_need_clause
  B_need_clause : Binds K fd_need_clause ["value"] []
  g_need_clause : mg "need_clause" = some (.ref a_need_clause)
  a_text_of : Addr
  fd_text_of : FuncData
  F_text_of : Fun K "text_of" "text_of" s_text_of a_text_of fd_text_of
  B_text_of : Binds K fd_text_of ["clause"] []
  g_text_of : mg "text_of" = some (.ref a_text_of)
  a_clause_in : Addr
  fd_clause_in : FuncData
  F_clause_in : Fun K "clause_in" "clause_in" s_clause_in a_clause_in fd_clause_in
  B_clause_in : Binds K fd_clause_in ["value"] []
  g_clause_in : mg "clause_in" = some (.ref a_clause_in)
  a_clause_text : Addr
  fd_clause_text : FuncData
  F_clause_text : Fun K "clause_text" "clause_text" s_clause_text a_clause_text fd_clause_text
  B_clause_text : Binds K fd_clause_text ["clause"] []
  g_clause_text : mg "clause_text" = some (.ref a_clause_text)
  a_read_clause : Addr
  fd_read_clause : FuncData
  F_read_clause : Fun K "read_clause" "read_clause" s_read_clause a_read_clause fd_read_clause
  B_read_clause : Binds K fd_read_clause ["value"] []
  g_read_clause : mg "read_clause" = some (.ref a_read_clause)
  a_u_law_cup_of : Addr
  fd_u_law_cup_of : FuncData
  F_u_law_cup_of : Fun K "_law_cup_of" "_law_cup_of" s_u_law_cup_of a_u_law_cup_of fd_u_law_cup_of
  B_u_law_cup_of : Binds K fd_u_law_cup_of ["script", "k"] []
  g_u_law_cup_of : mg "_law_cup_of" = some (.ref a_u_law_cup_of)
  a_u_law_drip : Addr
  fd_u_law_drip : FuncData
  F_u_law_drip : Fun K "_law_drip" "_law_drip" s_u_law_drip a_u_law_drip fd_u_law_drip
  B_u_law_drip : Binds K fd_u_law_drip ["cup", "many"] []
  g_u_law_drip : mg "_law_drip" = some (.ref a_u_law_drip)
  a_u_law_some : Addr
  fd_u_law_some : FuncData
  F_u_law_some : Fun K "_law_some" "_law_some" s_u_law_some a_u_law_some fd_u_law_some
  B_u_law_some : Binds K fd_u_law_some ["cup", "things"] []
  g_u_law_some : mg "_law_some" = some (.ref a_u_law_some)
  a_u_law_rule : Addr
  fd_u_law_rule : FuncData
  F_u_law_rule : Fun K "_law_rule" "_law_rule" s_u_law_rule a_u_law_rule fd_u_law_rule
  B_u_law_rule : Binds K fd_u_law_rule ["cup"] []
  g_u_law_rule : mg "_law_rule" = some (.ref a_u_law_rule)
  a_u_law_word : Addr
  fd_u_law_word : FuncData
  F_u_law_word : Fun K "_law_word" "_law_word" s_u_law_word a_u_law_word fd_u_law_word
  B_u_law_word : Binds K fd_u_law_word ["call"] []
  g_u_law_word : mg "_law_word" = some (.ref a_u_law_word)
  a_u_law_writing : Addr
  fd_u_law_writing : FuncData
  F_u_law_writing : Fun K "_law_writing" "_law_writing" s_u_law_writing a_u_law_writing fd_u_law_writing
  B_u_law_writing : Binds K fd_u_law_writing ["rule"] []
  g_u_law_writing : mg "_law_writing" = some (.ref a_u_law_writing)
  a_u_law_table : Addr
  fd_u_law_table : FuncData
  F_u_law_table : Fun K "_law_table" "_law_table" s_u_law_table a_u_law_table fd_u_law_table
  B_u_law_table : Binds K fd_u_law_table [] []
  g_u_law_table : mg "_law_table" = some (.ref a_u_law_table)
  a_u_law_tried : Addr
  fd_u_law_tried : FuncData
  F_u_law_tried : Fun K "_law_tried" "_law_tried" s_u_law_tried a_u_law_tried fd_u_law_tried
  B_u_law_tried : Binds K fd_u_law_tried ["value"] []
  g_u_law_tried : mg "_law_tried" = some (.ref a_u_law_tried)
  cc_u_law_tried : Addr
  pt_u_law_tried : Addr
  C_u_law_tried : FunC K "_law_tried" "_law_tried" s_u_law_tried a_u_law_tried fd_u_law_tried (fun v => v = .ref cc_u_law_tried)
  a_u_law_bent : Addr
  fd_u_law_bent : FuncData
  F_u_law_bent : Fun K "_law_bent" "_law_bent" s_u_law_bent a_u_law_bent fd_u_law_bent
  B_u_law_bent : Binds K fd_u_law_bent ["cup", "text"] []
  g_u_law_bent : mg "_law_bent" = some (.ref a_u_law_bent)
  a_law : Addr
  fd_law : FuncData
  F_law : Fun K "law" "law" s_law a_law fd_law
  B_law : Binds K fd_law ["script"] []
  g_law : mg "law" = some (.ref a_law)
  c_InvalidClause : Addr
  e_InvalidClause : ExC K mg "InvalidClause" c_InvalidClause
  c_InvalidRow : Addr
  m_InvalidRow : mg "InvalidRow" = some (.ref c_InvalidRow)
  c_InvalidHour : Addr
  m_InvalidHour : mg "InvalidHour" = some (.ref c_InvalidHour)
  c_InvalidNumber : Addr
  m_InvalidNumber : mg "InvalidNumber" = some (.ref c_InvalidNumber)
  c_InvalidSeen : Addr
  m_InvalidSeen : mg "InvalidSeen" = some (.ref c_InvalidSeen)
  c_InvalidIndex : Addr
  m_InvalidIndex : mg "InvalidIndex" = some (.ref c_InvalidIndex)
  c_InvalidText : Addr
  e_InvalidText : ExC K mg "InvalidText" c_InvalidText
  c_Impossible : Addr
  m_Impossible : mg "Impossible" = some (.ref c_Impossible)
  c_Unlike : Addr
  m_Unlike : mg "Unlike" = some (.ref c_Unlike)
  c_NothingToUndo : Addr
  m_NothingToUndo : mg "NothingToUndo" = some (.ref c_NothingToUndo)
  x_InvalidClause_InvalidClause : PySem.W.exmOne K (.ref c_InvalidClause) (.ref c_InvalidClause) = some true
  x_InvalidText_InvalidClause : PySem.W.exmOne K (.ref c_InvalidText) (.ref c_InvalidClause) = some false
  x_InvalidText_InvalidRow : PySem.W.exmOne K (.ref c_InvalidText) (.ref c_InvalidRow) = some false
  x_InvalidText_InvalidHour : PySem.W.exmOne K (.ref c_InvalidText) (.ref c_InvalidHour) = some false
  x_InvalidText_InvalidNumber : PySem.W.exmOne K (.ref c_InvalidText) (.ref c_InvalidNumber) = some false
  x_InvalidText_InvalidSeen : PySem.W.exmOne K (.ref c_InvalidText) (.ref c_InvalidSeen) = some false
  x_InvalidText_InvalidIndex : PySem.W.exmOne K (.ref c_InvalidText) (.ref c_InvalidIndex) = some false
  x_InvalidText_InvalidText : PySem.W.exmOne K (.ref c_InvalidText) (.ref c_InvalidText) = some true
  b_ValueError : mg "ValueError" = none
  b_abs : mg "abs" = none
  b_bool : mg "bool" = none
  b_enumerate : mg "enumerate" = none
  b_int : mg "int" = none
  b_isinstance : mg "isinstance" = none
  b_len : mg "len" = none
  b_list : mg "list" = none
  b_min : mg "min" = none
  b_range : mg "range" = none
  b_str : mg "str" = none
  b_tuple : mg "tuple" = none
  k_MOST_GAP : ∃ u, mg "MOST_GAP" = some u ∧ RelV (.int (4)) u
  k_MOST_SPAN : ∃ u, mg "MOST_SPAN" = some u ∧ RelV (.int (5)) u
  k_MOST_SHARE : ∃ u, mg "MOST_SHARE" = some u ∧ RelV (.int (4)) u
  k_MOST_CEILING : ∃ u, mg "MOST_CEILING" = some u ∧ RelV (.int (4)) u
  k_WORDS : ∃ p, mg "WORDS" = some (.ref p) ∧ SqT K (fun _ => none) p [.str "gap", .str "span", .str "share", .str "ceiling"] ∧ ∃ o, K.lookup p = some o ∧ o.cls = .type "tuple" ∧ o.dict = none
  k_NONES : ∃ p, mg "NONES" = some (.ref p) ∧ SqT K (fun _ => none) p [.int (-1), .int (0), .int (0), .int (0)] ∧ ∃ o, K.lookup p = some o ∧ o.cls = .type "tuple" ∧ o.dict = none
theorem Txt.gc_InvalidClause {K : PySem.W.Frag} {mg : Str → Option Value} (t : Txt K mg) : mg "InvalidClause" = some (.ref t.c_InvalidClause) := t.e_InvalidClause.g
theorem Txt.gc_InvalidText {K : PySem.W.Frag} {mg : Str → Option Value} (t : Txt K mg) : mg "InvalidText" = some (.ref t.c_InvalidText) := t.e_InvalidText.g
theorem Txt.gc_InvalidRow {K : PySem.W.Frag} {mg : Str → Option Value} (t : Txt K mg) : mg "InvalidRow" = some (.ref t.c_InvalidRow) := t.m_InvalidRow
theorem Txt.gc_InvalidHour {K : PySem.W.Frag} {mg : Str → Option Value} (t : Txt K mg) : mg "InvalidHour" = some (.ref t.c_InvalidHour) := t.m_InvalidHour
theorem Txt.gc_InvalidNumber {K : PySem.W.Frag} {mg : Str → Option Value} (t : Txt K mg) : mg "InvalidNumber" = some (.ref t.c_InvalidNumber) := t.m_InvalidNumber
theorem Txt.gc_InvalidSeen {K : PySem.W.Frag} {mg : Str → Option Value} (t : Txt K mg) : mg "InvalidSeen" = some (.ref t.c_InvalidSeen) := t.m_InvalidSeen
theorem Txt.gc_InvalidIndex {K : PySem.W.Frag} {mg : Str → Option Value} (t : Txt K mg) : mg "InvalidIndex" = some (.ref t.c_InvalidIndex) := t.m_InvalidIndex
theorem Txt.gc_Impossible {K : PySem.W.Frag} {mg : Str → Option Value} (t : Txt K mg) : mg "Impossible" = some (.ref t.c_Impossible) := t.m_Impossible
theorem Txt.gc_Unlike {K : PySem.W.Frag} {mg : Str → Option Value} (t : Txt K mg) : mg "Unlike" = some (.ref t.c_Unlike) := t.m_Unlike
theorem Txt.gc_NothingToUndo {K : PySem.W.Frag} {mg : Str → Option Value} (t : Txt K mg) : mg "NothingToUndo" = some (.ref t.c_NothingToUndo) := t.m_NothingToUndo
/-- the tables of the defs that make lambdas -/
abbrev tabs {K : PySem.W.Frag} {mg : Str → Option Value} (t : Txt K mg) : List (Addr × Addr) := [(t.cc_u_law_tried, t.pt_u_law_tried)]
abbrev tabT {K : PySem.W.Frag} {mg : Str → Option Value} (t : Txt K mg) : List (Addr × Str) := [(t.pt_u_law_tried, (envOfC "_law_tried" (defScope s_u_law_tried) 0 0 .none).qual ++ "<lambda>")]
abbrev chain {K : PySem.W.Frag} {mg : Str → Option Value} (t : Txt K mg) : List (Value × Str) := [(.ref t.c_InvalidClause, "clause"), (.ref t.c_InvalidRow, "row"), (.ref t.c_InvalidHour, "hour"), (.ref t.c_InvalidNumber, "number"), (.ref t.c_InvalidSeen, "seen"), (.ref t.c_InvalidIndex, "index"), (.ref t.c_InvalidText, "text"), (.ref t.c_Impossible, "none"), (.ref t.c_Unlike, "unlike"), (.ref t.c_NothingToUndo, "undo")]
theorem ch_InvalidClause {K : PySem.W.Frag} {mg : Str → Option Value} (t : Txt K mg) {k : Str → Prop} (h : k "clause") : chW K (chain t) (.ref t.c_InvalidClause) k := chW_yes t.x_InvalidClause_InvalidClause h
theorem ch_InvalidText {K : PySem.W.Frag} {mg : Str → Option Value} (t : Txt K mg) {k : Str → Prop} (h : k "text") : chW K (chain t) (.ref t.c_InvalidText) k := chW_no t.x_InvalidText_InvalidClause (chW_no t.x_InvalidText_InvalidRow (chW_no t.x_InvalidText_InvalidHour (chW_no t.x_InvalidText_InvalidNumber (chW_no t.x_InvalidText_InvalidSeen (chW_no t.x_InvalidText_InvalidIndex (chW_yes t.x_InvalidText_InvalidText h))))))
theorem word_ok {K : PySem.W.Frag} {mg : Str → Option Value} (t : Txt K mg) {X : Cx} (hK : X.K = K) (hm : X.mg = mg) (cdv : Value) (q : Str) : LamX.GivesTo X ["call", "found", "e"] "_law_word" (defScope s_u_law_word) t.a_u_law_word cdv (defBody s_u_law_word) "call" q (TTw X.K (chain t) "") := by
  refine word_gives (nf := "found") sc_u_law_word.nd rfl (.inl rfl) (.inl rfl) (fun _ => rfl) (by decide) (by decide) (fun f s H => ?_) (fun _ _ => rfl) (fun _ _ => rfl) rfl
  exact pref_word sc_u_law_word.nd rfl (.inl rfl) (.inr rfl) ⟨rfl, by decide, .inl (hm ▸ t.e_InvalidClause.g)⟩ (fun _ _ => rfl) (pref_word sc_u_law_word.nd rfl (.inl rfl) (.inr rfl) ⟨rfl, by decide, .inl (hm ▸ t.m_InvalidRow)⟩ (fun _ _ => rfl) (pref_word sc_u_law_word.nd rfl (.inl rfl) (.inr rfl) ⟨rfl, by decide, .inl (hm ▸ t.m_InvalidHour)⟩ (fun _ _ => rfl) (pref_word sc_u_law_word.nd rfl (.inl rfl) (.inr rfl) ⟨rfl, by decide, .inl (hm ▸ t.m_InvalidNumber)⟩ (fun _ _ => rfl) (pref_word sc_u_law_word.nd rfl (.inl rfl) (.inr rfl) ⟨rfl, by decide, .inl (hm ▸ t.m_InvalidSeen)⟩ (fun _ _ => rfl) (pref_word sc_u_law_word.nd rfl (.inl rfl) (.inr rfl) ⟨rfl, by decide, .inl (hm ▸ t.m_InvalidIndex)⟩ (fun _ _ => rfl) (pref_word sc_u_law_word.nd rfl (.inl rfl) (.inr rfl) ⟨rfl, by decide, .inl (hm ▸ t.e_InvalidText.g)⟩ (fun _ _ => rfl) (pref_word sc_u_law_word.nd rfl (.inl rfl) (.inr rfl) ⟨rfl, by decide, .inl (hm ▸ t.m_Impossible)⟩ (fun _ _ => rfl) (pref_word sc_u_law_word.nd rfl (.inl rfl) (.inr rfl) ⟨rfl, by decide, .inl (hm ▸ t.m_Unlike)⟩ (fun _ _ => rfl) (pref_word sc_u_law_word.nd rfl (.inl rfl) (.inr rfl) ⟨rfl, by decide, .inl (hm ▸ t.m_NothingToUndo)⟩ (fun _ _ => rfl) (.rest _))))))))))
/-! ### words -/
local macro_rules | `(tactic| walk_at "lcI?") => `(tactic| fail)
local macro_rules | `(tactic| walk_at "vis") => `(tactic| first | exact .inl rfl | exact .inr (.inl rfl) | exact .inr (.inr rfl))
local macro_rules | `(tactic| walk_at "loc") => `(tactic| first | exact .inl rfl | exact .inr rfl)
local macro_rules | `(tactic| walk_at "px") => `(tactic| exact fun _ _ => rfl)
local macro_rules | `(tactic| walk_at "mk") => `(tactic| first | rfl | exact nomark _)
local macro_rules | `(tactic| walk_at "sz") => `(tactic| (show _ ≤ sizeLine; rw [sizeLine_eq]; first | (simp [Src.len]; done) | (simp only [Src.len, List.length_map, List.length_append, List.length_cons, List.length_nil, List.length_replicate, List.length_take]; omega) | omega))
local macro_rules | `(tactic| walk_at "ar") => `(tactic| first | (with_reducible assumption) | omega | decide | (simp; done) | (simp; omega) | decide +kernel | rfl)
local macro_rules | `(tactic| walk_at "nv") => `(tactic| first | (with_reducible assumption) | rfl | (simp_all [D.plain, D.plains]; done) | (apply nv_of_plain; simp_all [D.plain, D.plains]; done))
local macro_rules | `(tactic| walk_at "name") => `(tactic| first | walk_at "glob" | walk_at "slots")
/- a way -/
local macro_rules | `(tactic| walk_at "way") => `(tactic| first
  | refine ifY rfl ?_ | refine ifN rfl ?_
  | ((with_reducible show ite ((!D.eqv _ (.lst [])) = true) _ _); refine ifY (by rw [eqv_ll, eqvs_nilL]; simp; done) ?_)
  | (with_reducible refine ifnot ?_) | (with_reducible refine ifand ?_) | (with_reducible refine ifor ?_)
  | (with_reducible refine ifTu ?_ ?_) | (with_reducible refine ifIn ?_ ?_ ?_) | (with_reducible refine ifSt ?_ ?_) | (with_reducible refine ifBo ?_ ?_)
  | (with_reducible refine ifd (fun _ => ?_) (fun _ => ?_)) | (with_reducible refine ifb (fun _ => ?_) (fun _ => ?_)))
/- an expression -/
local macro_rules | `(tactic| walk_at "e") => `(tactic| first
  | ((with_reducible show EW _ (.Name _ _) _ _ _); walk_at "name")
  | ((with_reducible show EW _ (.Constant (.int _) _ _) _ _ _); refine ew_int ?_)
  | ((with_reducible show EW _ (.Constant (.bool _) _ _) _ _ _); refine ew_bl ?_)
  | ((with_reducible show EW _ (.Constant .none _ _) _ _ _); refine ew_non ?_)
  | ((with_reducible show EW _ (.Constant (.str _) _ _) _ _ _); refine ew_str ?_)
  | ((with_reducible show EW _ (.Call (.Name _ _) _ _ _) _ _ _); walk_at "call")
  | ((with_reducible show EW _ (.Call (.Attribute _ "append" _) _ _ _) _ _ _); walk_at "append")
  | ((with_reducible show EW _ (.Call (.Attribute _ "join" _) _ _ _) _ _ _); refine ew_join ?_)
  | ((with_reducible show EW _ (.Call (.Attribute _ "split" _) _ _ _) _ _ _); refine ew_split ?_)
  | ((with_reducible show EW _ (.BinOp _ _ _ _) _ _ _); refine ew_bin ?_)
  | ((with_reducible show EW _ (.Compare _ [_] _ _) _ _ _); refine ew_cmp (by walk_at "mk") ?_)
  | ((with_reducible show EW _ (.Compare _ [_, _] _ _) _ _ _); refine ew_chain ?_)
  | ((with_reducible show EW _ (.BoolOp .And (_ :: _ :: _) _) _ _ _); refine ew_and ?_)
  | ((with_reducible show EW _ (.BoolOp .Or (_ :: _ :: _) _) _ _ _); refine ew_or ?_)
  | ((with_reducible show EW _ (.BoolOp _ [_] _) _ _ _); refine ew_one ?_)
  | ((with_reducible show EW _ (.UnaryOp .Not _ _) _ _ _); refine ew_not ?_)
  | ((with_reducible show EW _ (.UnaryOp .USub _ _) _ _ _); refine ew_un ?_)
  | ((with_reducible show EW _ (.ListComp _ _ _ _) _ _ _); walk_at "lc")
  | ((with_reducible show EW _ (.IfExp _ _ _ _) _ _ _); refine ew_ifExp ?_)
  | ((with_reducible show EW _ (.Tuple _ _ _) _ _ _); refine ew_tup ?_)
  | ((with_reducible show EW _ (.Dict [] [] _) _ _ _); refine ew_dnew ?_)
  | ((with_reducible show EW _ (.List _ _) _ _ _); walk_at "lst")
  | ((with_reducible show EW _ (.Subscript _ (.Slice none none (some _) _) _) _ _ _); refine ew_revT ?_)
  | ((with_reducible show EW _ (.Subscript _ (.Slice _ _ none _) _) _ _ _); refine ew_slice ?_)
  | ((with_reducible show EW _ (.Subscript _ _ _) _ _ _); refine ew_ix (by walk_at "px") ?_))
local macro_rules | `(tactic| walk_at "call") => `(tactic| first
  | walk_at "own"
  | walk_at "bcall")
local macro_rules | `(tactic| walk_at "s") => `(tactic| first
  | ((with_reducible show SW _ [] _ _ _); refine sw_nil ?_)
  | ((with_reducible show SW1 _ (.Return (some _) _) _ _ _); refine s1_ret ?_)
  | ((with_reducible show SW1 _ (.Return none _) _ _ _); refine s1_retN ?_)
  | ((with_reducible show SW1 _ (.If _ _ _ _) _ _ _); refine s1_if ?_)
  | ((with_reducible show SW1 _ (.Assign [.Name _ _] _ _) _ _ _); walk_at "store")
  | ((with_reducible show SW1 _ (.Assign [.Tuple _ _ _] (.Tuple [_, _] _ _) _) _ _ _); walk_at "par")
  | ((with_reducible show SW1 _ (.Assign [.Tuple _ _ _] (.Tuple [_, _, _] _ _) _) _ _ _); walk_at "par")
  | ((with_reducible show SW1 _ (.Assign [_] _ _) _ _ _); refine s1_asg ?_)
  | ((with_reducible show SW1 _ (.Expr (.Constant _ _ _) _) _ _ _); refine s1_doc ?_)
  | ((with_reducible show SW1 _ (.Expr _ _) _ _ _); refine s1_expr ?_)
  | ((with_reducible show SW1 _ (.Raise _ _ _) _ _ _); walk_at "raise")
  | ((with_reducible show SW1 _ (.Pass _) _ _ _); refine s1_pass ?_)
  | ((with_reducible show SW1 _ (.Break _) _ _ _); refine s1_break ?_)
  | ((with_reducible show SW1 _ (.Continue _) _ _ _); refine s1_continue ?_)
  | ((with_reducible show SW _ (_ :: _) _ _ _); refine sw_cons ?_))
local macro_rules | `(tactic| walk_at "t") => `(tactic| first
  | ((with_reducible show TW _ (.Compare _ [_] _ _) _ _ _); refine tw_cmp (by walk_at "mk") ?_)
  | ((with_reducible show TW _ (.BoolOp _ _ _) _ _ _); refine tw_ww ?_)
  | ((with_reducible show TWW _ (.BoolOp .And [_] _) _ _ _); refine tw_and1 ?_)
  | ((with_reducible show TWW _ (.BoolOp .Or [_] _) _ _ _); refine tw_or1 ?_)
  | ((with_reducible show TWW _ (.BoolOp .And _ _) _ _ _); refine tw_and ?_)
  | ((with_reducible show TWW _ (.BoolOp .Or _ _) _ _ _); refine tw_or ?_)
  | ((with_reducible show TW _ (.UnaryOp .Not _ _) _ _ _); refine tw_not ?_)
  | ((with_reducible show TW _ _ _ _ _); refine tw_val (by intro _; rfl) ?_))
local macro_rules | `(tactic| walk_at "o") => `(tactic| first
  | ((with_reducible show BO _ (binaryOp .Add) _ (.int _) _ _ _); refine bo_add ?_)
  | ((with_reducible show BO _ (binaryOp .Add) _ (.str _) (.str _) _ _); refine bo_addS (by walk_at "szs") ?_)
  | ((with_reducible show BO _ (compareOp .Eq) _ (.str _) (.str _) _ _); refine bo_eqS ?_)
  | ((with_reducible show BO _ (compareOp .NotEq) _ (.str _) (.str _) _ _); refine bo_neS ?_)
  | ((with_reducible show BO _ (binaryOp .Add) _ (.tup _) _ _ _); refine bo_catT (by walk_at "sz") ?_)
  | ((with_reducible show BO _ (binaryOp .Add) _ (.lst _) _ _ _); refine bo_catL .self .self (by walk_at "sz") ?_)
  | ((with_reducible show BO _ (binaryOp .Mult) _ (.lst _) (.int _) _ _); refine bo_repL .self (by decide) (by decide) (by decide) ?_)
  | ((with_reducible show BO _ (binaryOp .Mult) _ (.tup _) (.int _) _ _); refine bo_repT (by decide) (by decide) (by decide) (by decide) ?_)
  | ((with_reducible show BO _ (binaryOp .Pow) _ (.int _) (.int _) _ _); walk_at "pow")
  | ((with_reducible show BO _ (binaryOp .Sub) _ _ _ _ _); refine bo_sub ?_)
  | ((with_reducible show BO _ (binaryOp .Mult) _ (.int _) (.int _) _ _); first | refine bo_mulS (by walk_at "cm") ?_ | refine bo_mul (by unfold CMulW; decide +kernel) ?_)
  | ((with_reducible show BO _ (binaryOp .FloorDiv) _ _ _ _ _); refine bo_fdiv ⟨by walk_at "ar", by walk_at "ar"⟩ ?_)
  | ((with_reducible show BO _ (binaryOp .Mod) _ _ _ _ _); refine bo_mod (by walk_at "ar") ?_)
  | ((with_reducible show BO _ (compareOp .Lt) _ _ _ _ _); refine bo_lt ?_)
  | ((with_reducible show BO _ (compareOp .LtE) _ _ _ _ _); refine bo_le ?_)
  | ((with_reducible show BO _ (compareOp .Gt) _ _ _ _ _); refine bo_gt ?_)
  | ((with_reducible show BO _ (compareOp .GtE) _ _ _ _ _); refine bo_ge ?_)
  | ((with_reducible show BO _ (compareOp .Eq) _ (.int _) (.int _) _ _); refine bo_eqI ?_)
  | ((with_reducible show BO _ (compareOp .NotEq) _ (.int _) (.int _) _ _); refine bo_neI ?_)
  | ((with_reducible show BO _ (compareOp .Eq) _ (.lst _) (.lst _) _ _); refine bo_eqD .self .self (by walk_at "shp") (by walk_at "shp") ?_)
  | ((with_reducible show BO _ (compareOp .NotEq) _ (.lst _) (.lst _) _ _); refine bo_neD .self .self (by walk_at "shp") (by walk_at "shp") ?_)
  | ((with_reducible show BO _ (compareOp .NotEq) _ (.v _) (.lst _) _ _); refine bo_neD (.cel 0 rfl) .self (by walk_at "shp") (by walk_at "shp") ?_)
  | ((with_reducible show BO _ (compareOp .Eq) _ (.v _) (.lst _) _ _); refine bo_eqD (.cel 0 rfl) .self (by walk_at "shp") (by walk_at "shp") ?_)
  | ((with_reducible show BO _ (compareOp .Eq) _ (.tup _) (.tup _) _ _); refine bo_eqD .self .self (by walk_at "shp") (by walk_at "shp") ?_)
  | ((with_reducible show BO _ (compareOp .NotEq) _ (.tup _) (.tup _) _ _); refine bo_neD .self .self (by walk_at "shp") (by walk_at "shp") ?_)
  | ((with_reducible show BO _ (compareOp .Eq) _ _ _ _ _); refine bo_eqD .self .self (by walk_at "shp") (by walk_at "shp") ?_)
  | ((with_reducible show BO _ (compareOp .NotEq) _ _ _ _ _); refine bo_neD .self .self (by walk_at "shp") (by walk_at "shp") ?_)
  | ((with_reducible show BO _ (compareOp .Is) _ (.bl _) (.bl _) _ _); refine bo_isB ?_)
  | ((with_reducible show BO _ (compareOp .IsNot) _ (.bl _) (.bl _) _ _); refine bo_notB ?_)
  | ((with_reducible show BO _ (compareOp .Is) _ (.v (.ref _)) .non _ _); refine bo_isNv ?_)
  | ((with_reducible show BO _ (compareOp .Is) _ _ .non _ _); refine bo_isN (by walk_at "nv") ?_)
  | ((with_reducible show BO _ (compareOp .IsNot) _ _ .non _ _); refine bo_notN (by walk_at "nv") ?_))
local macro_rules | `(tactic| walk_at "f") => `(tactic| first
  | ((with_reducible show CO _ (.builtin "isinstance") _ [_, .v (.ty "int")] _ _); refine co_isInt (by walk_at "nv") ?_)
  | ((with_reducible show CO _ (.builtin "isinstance") _ [_, .v (.ty "bool")] _ _); refine co_isBool (by walk_at "nv") ?_)
  | ((with_reducible show CO _ (.builtin "isinstance") _ [_, .v (.ty "tuple")] _ _); refine co_isTup (by walk_at "nv") ?_)
  | ((with_reducible show CO _ (.builtin "isinstance") _ [_, .v (.ty "str")] _ _); refine co_isStr (by walk_at "nv") ?_)
  | ((with_reducible show CO _ (.builtin "len") _ [.tup _] _ _); refine co_lenT ?_)
  | ((with_reducible show CO _ (.builtin "len") _ [.lk _] _ _); refine co_lenK ?_)
  | ((with_reducible show CO _ (.builtin "len") _ [.lst _] _ _); refine co_len .self ?_)
  | ((with_reducible show CO _ (.builtin "min") _ [.int _, .int _] _ _); refine co_min2 ?_)
  | ((with_reducible show CO _ (.builtin "max") _ [.int _, .int _] _ _); refine co_max2 ?_)
  | ((with_reducible show CO _ (.builtin "abs") _ [.int _] _ _); refine co_abs ?_)
  | ((with_reducible show CO _ (.type "int") _ [.int _] _ _); refine co_int ?_)
  | ((with_reducible show CO _ (.type "int") _ [.bl _] _ _); refine co_intB ?_)
  | ((with_reducible show CO _ (.type "list") _ [.tup _] _ _); refine co_listT ?_)
  | ((with_reducible show CO _ (.type "tuple") _ [.lst _] _ _); refine co_tupleL .self ?_)
  | ((with_reducible show CO _ (.type "tuple") _ [.tup _] _ _); refine co_tupleT ?_)
  | ((with_reducible show CO _ (.type "tuple") _ [.v _] _ _); refine co_tupleL (.cel 0 rfl) ?_)
  | ((with_reducible show CO _ (.type "str") _ [.int _] _ _); refine co_strI (by walk_at "log") ?_)
  | ((with_reducible show CO _ (.builtin "len") _ [.str _] _ _); refine co_lenS (by walk_at "szs") ?_)
  | ((with_reducible show CO _ (.builtin "len") _ [.v _] _ _); refine co_len (.cel 0 rfl) ?_)
  | ((with_reducible show CO _ (.builtin "sum") _ [.lst (List.map D.int _)] _ _); refine co_sumL .self ?_))
local macro_rules | `(tactic| walk_at "1") => `(tactic| first
  | ((with_reducible show EW _ _ _ _ _); walk_at "e")
  | ((with_reducible show SW _ _ _ _ _); walk_at "s")
  | ((with_reducible show SW1 _ _ _ _ _); walk_at "s")
  | ((with_reducible show EA _ [] _ _ _); refine ea_nil ?_)
  | ((with_reducible show EA _ _ _ _ _); refine ea_cons ?_)
  | ((with_reducible show TW _ _ _ _ _); walk_at "t")
  | ((with_reducible show TWW _ _ _ _ _); walk_at "t")
  | ((with_reducible show BO _ _ _ _ _ _ _); walk_at "o")
  | ((with_reducible show CO _ _ _ _ _ _); walk_at "f")
  | ((with_reducible show ite _ _ _); walk_at "way")
  | ((with_reducible show ∃ t, D.bl _ = D.bl t ∧ _); refine ⟨_, rfl, ?_⟩)
  | ((with_reducible show UO _ _ _ _ _ _); refine uo_neg ?_)
  | ((with_reducible show IO _ _ _ _ _ _); walk_at "ix")
  | ((with_reducible show EWO _ none _ _ _); refine ewo_none ?_)
  | ((with_reducible show EWO _ (some _) _ _ _); refine ewo_some ?_)
  | ((with_reducible show ∃ i : Int, D.int _ = D.int i ∧ _); refine ⟨_, rfl, ?_⟩)
  | ((with_reducible show ∃ ds : List D, D.tup _ = D.tup ds ∧ _); refine ⟨_, rfl, ?_⟩)
  | ((with_reducible show ∃ z : Str, D.str _ = D.str z ∧ _); refine ⟨_, rfl, ?_⟩)
  | ((with_reducible show ∃ ds : List D, D.lst _ = D.lst ds ∧ _); refine ⟨_, rfl, ?_⟩)
  | ((with_reducible show ∃ cl : Cel, _ = some cl ∧ _); refine ⟨_, rfl, ?_⟩)
  | ((with_reducible show GW _ (.Name _ _) _ _ _ _); walk_at "gname")
  | ((with_reducible show GW _ (.Tuple _ _ _) (.tup _) _ _ _); refine gw_tup ?_)
  | ((with_reducible show GsW _ [] _ _ _ _); refine gs_nil ?_)
  | ((with_reducible show GsW _ (_ :: _) _ _ _ _); refine gs_cons ?_)
  | ((with_reducible show GW _ (.Subscript (.Name _ _) _ _) _ _ _ _); refine gw_setL 0 ?_)
  | ((with_reducible show ∃ (p : Addr) (m : Bool) (ds : List D) (k : Int) (n : Nat), _ ∧ _ ∧ _ ∧ _ ∧ _); first | refine ⟨_, _, _, _, _, rfl, rfl, rfl, ixN_last _ _, ?_⟩ | refine ⟨_, _, _, _, _, rfl, rfl, rfl, rfl, ?_⟩)
  | ((with_reducible show ∃ (p : Addr) (m : Bool) (ds : List D), _ = D.v (.ref p) ∧ _ ∧ _); refine ⟨_, _, _, rfl, rfl, ?_⟩)
  | ((with_reducible show ∃ (ds : List D), _ = some _ ∧ _ ∧ _); refine ⟨_, rfl, by walk_at "szl", ?_⟩)
  | ((with_reducible show SO _ _ (.tup _) _ _ _ _); refine so_tup ?_)
  | ((with_reducible show SO _ _ (.lst _) _ _ _ _); refine so_lst .self ?_)
  | ((with_reducible show SO _ _ (.str _) _ _ _ _); refine so_str (by walk_at "szs") ?_)
  | ((with_reducible show ∀ _ : List D, _ = D.tup _ → _); intro _ e; subst e)
  | ((with_reducible show ∀ _ : Int, _ = D.int _ → _); intro _ e; subst e)
  | ((with_reducible show ∀ _ : Bool, _ = D.bl _ → _); intro _ e; subst e)
  | ((with_reducible show ∀ _ : Str, _ = D.str _ → _); intro _ e; subst e)
  | ((with_reducible show _ = false → _); intro _)
  | ((with_reducible show (_ ≤ _ ∧ _ ≤ _) → _); intro hh; obtain ⟨_, _⟩ := hh)
  | ((with_reducible show (_ ≤ sizeLine) ∧ _); refine ⟨by walk_at "sz", ?_⟩)
  | walk_at "use")
local macro_rules | `(tactic| walk_at "ix") => `(tactic| first
  | refine io_lst .self (by with_reducible assumption) ?_ | refine io_tup (by with_reducible assumption) ?_ | refine io_lst (.cel 0 rfl) (atI_last _ _) ?_ | refine io_lst .self (atI_last _ _) ?_ | refine io_tup rfl ?_ | refine io_lst (.cel 0 rfl) rfl ?_ | refine io_lst .self rfl ?_ | ((with_reducible show IO _ _ (.lk _) (.int _) _ _); refine io_lkA (by walk_at "ar") (by walk_at "ar") ?_; intro _ _) | walk_at "ixu")
local macro_rules | `(tactic| walk_at "ixa") => `(tactic| first
  | (refine io_lstA .self (by walk_at "ar") (by walk_at "ar") ?_; intro _ _)
  | (refine io_tupA (by walk_at "ar") (by walk_at "ar") ?_; intro _ _))
local macro_rules | `(tactic| walk_at "cm") => `(tactic| first | exact .inr ⟨by decide, by decide⟩ | exact .inl ⟨by decide, by decide⟩ | exact .inr ⟨by omega, by omega⟩ | exact .inl ⟨by omega, by omega⟩)
local macro_rules | `(tactic| walk_at "go") => `(tactic| repeat' walk_at "1")
local macro_rules | `(tactic| walk_at "shp") => `(tactic| first | (with_reducible assumption) | (with_reducible rfl) | (decide +kernel) | rfl | (simp [D.shp, D.shps, D.shps_append, D.shp_int, D.shp_bl, D.shp_non, D.shps_ints]; done) | (simp_all [D.shp, D.shps, D.shps_append, D.shp_int, D.shp_bl, D.shp_non, D.shps_ints]; done))
/- a turn of a comprehension -/
local macro_rules | `(tactic| walk_at "tt") => `(tactic| (intro p acc s2 Hb C cl fp; first | exact ⟨rfl, rfl⟩ | ((show TW _ _ _ _ _); walk_at "go")))
local macro_rules | `(tactic| walk_at "te") => `(tactic| (intro p acc s2 Hb C cl fp; walk_at "go"))
local macro_rules | `(tactic| walk_at "lst") => `(tactic| first | (with_reducible refine ew_lst ?_) | refine ew_lst ?_)
local macro_rules | `(tactic| walk_at "append") => `(tactic| refine ew_append 0 ?_)
local macro_rules | `(tactic| walk_at "szl") => `(tactic| (show _ < sizeLine; rw [sizeLine_eq]; first | (simp [Src.len]; done) | (simp only [Src.len, List.length_map, List.length_append, List.length_cons, List.length_nil, List.length_replicate, List.length_take]; omega) | omega))
local macro_rules | `(tactic| walk_at "szs") => `(tactic| (rw [sizeLine_eq]; first | (with_reducible assumption) | omega | decide +kernel | (simp only [str_len]; omega)))
local macro_rules | `(tactic| walk_at "log") => `(tactic| first | (with_reducible assumption) | exact log_small (by omega) (by omega))
set_option hygiene false in
local macro_rules | `(tactic| walk_at "glob") => `(tactic| first | ((with_reducible show EW _ (.Name "MOST_GAP" _) _ _ _); refine ew_globI t.k_MOST_GAP rfl ?_) | ((with_reducible show EW _ (.Name "MOST_SPAN" _) _ _ _); refine ew_globI t.k_MOST_SPAN rfl ?_) | ((with_reducible show EW _ (.Name "MOST_SHARE" _) _ _ _); refine ew_globI t.k_MOST_SHARE rfl ?_) | ((with_reducible show EW _ (.Name "MOST_CEILING" _) _ _ _); refine ew_globI t.k_MOST_CEILING rfl ?_) | ((with_reducible show EW _ (.Name "WORDS" _) _ _ _); refine ew_globT (ds := [.str "gap", .str "span", .str "share", .str "ceiling"]) t.k_WORDS rfl ?_) | ((with_reducible show EW _ (.Name "NONES" _) _ _ _); refine ew_globT (ds := [.int (-1), .int (0), .int (0), .int (0)]) t.k_NONES rfl ?_) | ((with_reducible show EW _ (.Name "ValueError" _) _ _ _); refine ew_ty (n := "ValueError") t.b_ValueError bb_ValueError rfl ?_) | ((with_reducible show EW _ (.Name "bool" _) _ _ _); refine ew_ty (n := "bool") t.b_bool bb_bool rfl ?_) | ((with_reducible show EW _ (.Name "enumerate" _) _ _ _); refine ew_ty (n := "enumerate") t.b_enumerate bb_enumerate rfl ?_) | ((with_reducible show EW _ (.Name "int" _) _ _ _); refine ew_ty (n := "int") t.b_int bb_int rfl ?_) | ((with_reducible show EW _ (.Name "list" _) _ _ _); refine ew_ty (n := "list") t.b_list bb_list rfl ?_) | ((with_reducible show EW _ (.Name "range" _) _ _ _); refine ew_ty (n := "range") t.b_range bb_range rfl ?_) | ((with_reducible show EW _ (.Name "str" _) _ _ _); refine ew_ty (n := "str") t.b_str bb_str rfl ?_) | ((with_reducible show EW _ (.Name "tuple" _) _ _ _); refine ew_ty (n := "tuple") t.b_tuple bb_tuple rfl ?_))
set_option hygiene false in
local macro_rules | `(tactic| walk_at "bcall") => `(tactic| first | ((with_reducible show EW _ (.Call (.Name "ValueError" _) _ _ _) _ _ _); refine ew_callTy (n := "ValueError") t.b_ValueError bb_ValueError rfl ?_) | ((with_reducible show EW _ (.Call (.Name "abs" _) _ _ _) _ _ _); refine ew_callB (id := "abs") t.b_abs bb_abs rfl ?_) | ((with_reducible show EW _ (.Call (.Name "bool" _) _ _ _) _ _ _); refine ew_callTy (n := "bool") t.b_bool bb_bool rfl ?_) | ((with_reducible show EW _ (.Call (.Name "enumerate" _) _ _ _) _ _ _); refine ew_callTy (n := "enumerate") t.b_enumerate bb_enumerate rfl ?_) | ((with_reducible show EW _ (.Call (.Name "int" _) _ _ _) _ _ _); refine ew_callTy (n := "int") t.b_int bb_int rfl ?_) | ((with_reducible show EW _ (.Call (.Name "isinstance" _) _ _ _) _ _ _); refine ew_callB (id := "isinstance") t.b_isinstance bb_isinstance rfl ?_) | ((with_reducible show EW _ (.Call (.Name "len" _) _ _ _) _ _ _); refine ew_callB (id := "len") t.b_len bb_len rfl ?_) | ((with_reducible show EW _ (.Call (.Name "list" _) _ _ _) _ _ _); refine ew_callTy (n := "list") t.b_list bb_list rfl ?_) | ((with_reducible show EW _ (.Call (.Name "min" _) _ _ _) _ _ _); refine ew_callB (id := "min") t.b_min bb_min rfl ?_) | ((with_reducible show EW _ (.Call (.Name "range" _) _ _ _) _ _ _); refine ew_callTy (n := "range") t.b_range bb_range rfl ?_) | ((with_reducible show EW _ (.Call (.Name "str" _) _ _ _) _ _ _); refine ew_callTy (n := "str") t.b_str bb_str rfl ?_) | ((with_reducible show EW _ (.Call (.Name "tuple" _) _ _ _) _ _ _); refine ew_callTy (n := "tuple") t.b_tuple bb_tuple rfl ?_))
local macro_rules | `(tactic| walk_at "pow") => `(tactic| first | ((with_reducible show BO _ _ _ _ (.int 18) _ _); refine bo_powT (n := 18) rfl ⟨by decide, by decide, by decide⟩ ?_) | ((with_reducible show BO _ _ _ _ (.int 60) _ _); refine bo_powT (n := 60) rfl ⟨by decide, by decide, by decide⟩ ?_))
set_option hygiene false in
local macro_rules | `(tactic| walk_at "word") => `(tactic| first | refine ew_word (k := 5) (l := chain t) (z0 := "") t.F_u_law_word t.B_u_law_word rfl t.g_u_law_word sc_u_law_word rfl (.inl rfl) (fun cdv => word_ok t rfl rfl cdv _) (tb (t.cc_u_law_tried, t.pt_u_law_tried) (by simp)) rfl (.head _) (fun q hq _ => by cases hq with | head => rfl | tail _ h => cases h) (Nat.le_of_ble_eq_true rfl) (LamX.lamS_by (sc := defScope s_u_law_tried) (by decide +kernel)) rfl (fun _ _ _ _ _ => rfl) fun A2 outer2 s2 H2 E2 f2 c2 => ?_)
set_option hygiene false in
local macro_rules | `(tactic| walk_at "exv") => `(tactic| first | ((with_reducible show EW _ (.Call (.Name "InvalidClause" _) _ _ _) _ _ _); refine ew_exc t.e_InvalidClause rfl ?_) | ((with_reducible show EW _ (.Call (.Name "InvalidText" _) _ _ _) _ _ _); refine ew_exc t.e_InvalidText rfl ?_) | fail)
set_option hygiene false in
local macro_rules | `(tactic| walk_at "raise") => `(tactic| first | ((with_reducible show SW1 _ (.Raise (some (.Call (.Name "InvalidClause" _) _ _ _)) _ _) _ _ _); refine s1_raise t.e_InvalidClause rfl ?_) | ((with_reducible show SW1 _ (.Raise (some (.Call (.Name "InvalidText" _) _ _ _)) _ _) _ _ _); refine s1_raise t.e_InvalidText rfl ?_))
section
variable {Pg : Program} {w : World} {K : PySem.W.Frag} {mg : Str → Option Value} {base : Heap} {T : List (Addr × Str)}
local macro_rules | `(tactic| walk_at "slots") => `(tactic| first | ((with_reducible show EW _ (.Name "value" _) _ _ _); refine ew_var 0 rfl (by walk_at "vis") rfl ?_) | ((with_reducible show EW _ (.Name "low" _) _ _ _); refine ew_var 1 rfl (by walk_at "vis") rfl ?_) | ((with_reducible show EW _ (.Name "high" _) _ _ _); refine ew_var 2 rfl (by walk_at "vis") rfl ?_))
local macro_rules | `(tactic| walk_at "store") => `(tactic| first | ((with_reducible show SW1 _ (.Assign [.Name "value" _] _ _) _ _ _); refine s1_set (hi := ?shi) (hx := ?shx) 0 ?_; (case shi => exact rfl); (case shx => walk_at "loc")) | ((with_reducible show SW1 _ (.Assign [.Name "low" _] _ _) _ _ _); refine s1_set (hi := ?shi) (hx := ?shx) 1 ?_; (case shi => exact rfl); (case shx => walk_at "loc")) | ((with_reducible show SW1 _ (.Assign [.Name "high" _] _ _) _ _ _); refine s1_set (hi := ?shi) (hx := ?shx) 2 ?_; (case shi => exact rfl); (case shx => walk_at "loc")))
local macro_rules | `(tactic| walk_at "gname") => `(tactic| first | ((with_reducible show GW _ (.Name "value" _) _ _ _ _); refine gw_name 0 rfl (by walk_at "loc") ?_) | ((with_reducible show GW _ (.Name "low" _) _ _ _ _); refine gw_name 1 rfl (by walk_at "loc") ?_) | ((with_reducible show GW _ (.Name "high" _) _ _ _ _); refine gw_name 2 rfl (by walk_at "loc") ?_))
local macro_rules | `(tactic| walk_at "par") => `(tactic| first | fail)
local macro_rules | `(tactic| walk_at "lc") => `(tactic| first | fail)
/-! ### the program -/
def isInt (d : D) (lo hi : Int) : Bool := match d with
  | .int i => decide (lo ≤ i) && decide (i ≤ hi)
  | _ => false
theorem ifII {A B : Prop} {x : D} {lo hi : Int} (p : ∀ i, x = .int i → lo ≤ i ∧ i ≤ hi → A) (q : isInt x lo hi = false → B) : if isInt x lo hi = true then A else B := by
  cases x with
  | int i => exact ifb (fun h => p i rfl (by simpa [isInt] using h)) q
  | _ => exact ifN rfl (q rfl)
theorem isInt_int {i lo hi : Int} : isInt (.int i) lo hi = (decide (lo ≤ i) && decide (i ≤ hi)) := rfl
theorem isInt_not {x : D} {lo hi : Int} (h : isI x = false) : isInt x lo hi = false := by cases x <;> first | rfl | cases h
def sp_is_int : PSpec := fun ds QQ EE => ∃ d lo hi, ds = [d, .int lo, .int hi] ∧ d.nv = true ∧ QQ (.bl (isInt d lo hi))
theorem ok_is_int (t : Txt K mg) : FnOk Pg w K mg base (L2.CX Pg w) 1 t.a_is_int t.fd_is_int ["value", "low", "high"] (toSp K T (pureF sp_is_int)) := by
  refine fn_pure t.F_is_int sc_is_int (by decide) (fun ds QQ EE h => by obtain ⟨_, _, _, rfl, _⟩ := h; rfl) fun cdv A outer s H E ds QQ EE h => ?_
  obtain ⟨d, lo, hi, rfl, nv, q⟩ := h
  refine sw_cons ?_
  walk_at "go"
  all_goals refine rt_bl q ?_
  · simp_all [isInt]
  · simp_all [isInt]; omega
  · rfl
  · exact isInt_not ‹_›
set_option hygiene false in
local macro_rules | `(tactic| walk_at "own") => `(tactic| ((with_reducible show EW _ (.Call (.Name "is_int" _) _ _ _) _ _ _); refine ew_call ⟨ok_is_int t, t.g_is_int, t.F_is_int.kp, t.B_is_int, Nat.le_of_ble_eq_true rfl⟩ rfl ?_))
local macro_rules | `(tactic| walk_at "use") => `(tactic| ((with_reducible show sp_is_int _ _ _); refine ⟨_, _, _, rfl, by walk_at "nv", ?_⟩))
local macro_rules | `(tactic| walk_at "way") => `(tactic| (with_reducible refine ifII ?_ ?_))
local macro_rules | `(tactic| walk_at "slots") => `(tactic| first | ((with_reducible show EW _ (.Name "value" _) _ _ _); refine ew_var 0 rfl (by walk_at "vis") rfl ?_))
local macro_rules | `(tactic| walk_at "store") => `(tactic| first | ((with_reducible show SW1 _ (.Assign [.Name "value" _] _ _) _ _ _); refine s1_set (hi := ?shi) (hx := ?shx) 0 ?_; (case shi => exact rfl); (case shx => walk_at "loc")))
local macro_rules | `(tactic| walk_at "gname") => `(tactic| first | ((with_reducible show GW _ (.Name "value" _) _ _ _ _); refine gw_name 0 rfl (by walk_at "loc") ?_))
local macro_rules | `(tactic| walk_at "par") => `(tactic| first | fail)
local macro_rules | `(tactic| walk_at "lc") => `(tactic| first | fail)
def fitsD (d : D) : Bool := match d with
  | .tup [a, b, c, e] => isInt a (-1) 4 && (isInt b 0 5 && (!(D.eqv a (.int (-1)) && D.eqv b (.int 0)) && (isInt c 0 4 && isInt e 0 4)))
  | _ => false
theorem fitsD_len {xs : List D} (h : ¬ (xs.length : Int) = 4) : fitsD (.tup xs) = false := by
  match xs, h with
  | [], _ => rfl
  | [_], _ => rfl
  | [_, _], _ => rfl
  | [_, _, _], _ => rfl
  | [_, _, _, _], h => exact absurd rfl h
  | _ :: _ :: _ :: _ :: _ :: _, _ => rfl
theorem fitsD_not {d : D} (h : isT d = false) : fitsD d = false := by cases d <;> first | rfl | cases h
theorem cut2 {a b c e : D} : cutD [a, b, c, e] none (some 2) = [a, b] := rfl
theorem len4 {xs : List D} (h : (xs.length : Int) = 4) : ∃ a b c e, xs = [a, b, c, e] := by
  match xs, h with
  | [a, b, c, e], _ => exact ⟨_, _, _, _, rfl⟩
def sp_fits : PSpec := fun ds QQ EE => ∃ d, ds = [d] ∧ d.plain = true ∧ QQ (.bl (fitsD d))
theorem ok_fits (t : Txt K mg) : FnOk Pg w K mg base (L2.CX Pg w) 2 t.a_fits t.fd_fits ["value"] (toSp K T (pureF sp_fits)) := by
  refine fn_pure t.F_fits sc_fits (by decide) (fun ds QQ EE h => by obtain ⟨_, rfl, _⟩ := h; rfl) fun cdv A outer s H E ds QQ EE h => ?_
  obtain ⟨d, rfl, pl, q⟩ := h
  have nv := nv_of_plain pl
  refine sw_cons ?_
  walk_at "go"
  · rename_i xs h4
    obtain ⟨a, b, c, e, rfl⟩ := len4 h4
    walk_at "go"
    all_goals refine rt_bl q ?_
    all_goals simp_all [fitsD, isInt_int, cut2, eqv_tt, eqv_ii, eqvs_cons, eqvs_nil]
    all_goals (intros; omega)
  · exact rt_bl q (fitsD_len ‹_›)
  · exact rt_bl q (fitsD_not ‹_›)
set_option hygiene false in
local macro_rules | `(tactic| walk_at "own") => `(tactic| ((with_reducible show EW _ (.Call (.Name "fits" _) _ _ _) _ _ _); refine ew_call ⟨ok_fits t, t.g_fits, t.F_fits.kp, t.B_fits, Nat.le_of_ble_eq_true rfl⟩ rfl ?_))
local macro_rules | `(tactic| walk_at "use") => `(tactic| ((with_reducible show sp_fits _ _ _); refine ⟨_, rfl, by walk_at "nv", ?_⟩))
local macro_rules | `(tactic| walk_at "slots") => `(tactic| first | ((with_reducible show EW _ (.Name "value" _) _ _ _); refine ew_var 0 rfl (by walk_at "vis") rfl ?_))
local macro_rules | `(tactic| walk_at "store") => `(tactic| first | ((with_reducible show SW1 _ (.Assign [.Name "value" _] _ _) _ _ _); refine s1_set (hi := ?shi) (hx := ?shx) 0 ?_; (case shi => exact rfl); (case shx => walk_at "loc")))
local macro_rules | `(tactic| walk_at "gname") => `(tactic| first | ((with_reducible show GW _ (.Name "value" _) _ _ _ _); refine gw_name 0 rfl (by walk_at "loc") ?_))
local macro_rules | `(tactic| walk_at "par") => `(tactic| first | fail)
local macro_rules | `(tactic| walk_at "lc") => `(tactic| first | fail)
def sp_need_clause (C : Addr) : PSpec := fun ds QQ EE => ∃ d, ds = [d] ∧ d.plain = true ∧ (fitsD d = true → QQ .non) ∧ (fitsD d = false → EE (.ref C) [])
theorem ok_need_clause (t : Txt K mg) : FnOk Pg w K mg base (L2.CX Pg w) 3 t.a_need_clause t.fd_need_clause ["value"] (toSp K T (pureF (sp_need_clause t.c_InvalidClause))) := by
  refine fn_pure t.F_need_clause sc_need_clause (by decide) (fun ds QQ EE h => by obtain ⟨_, rfl, _⟩ := h; rfl) fun cdv A outer s H E ds QQ EE h => ?_
  obtain ⟨d, rfl, pl, q, qe⟩ := h
  refine sw_cons ?_
  walk_at "go"
  · exact q ‹_›
  · exact qe ‹_›
set_option hygiene false in
local macro_rules | `(tactic| walk_at "own") => `(tactic| ((with_reducible show EW _ (.Call (.Name "need_clause" _) _ _ _) _ _ _); refine ew_call ⟨ok_need_clause t, t.g_need_clause, t.F_need_clause.kp, t.B_need_clause, Nat.le_of_ble_eq_true rfl⟩ rfl ?_))
local macro_rules | `(tactic| walk_at "use") => `(tactic| ((with_reducible show sp_need_clause _ _ _ _); refine ⟨_, rfl, by walk_at "nv", fun _ => ?_, fun _ => ?_⟩))
local macro_rules | `(tactic| walk_at "slots") => `(tactic| first | ((with_reducible show EW _ (.Name "clause" _) _ _ _); refine ew_var 0 rfl (by walk_at "vis") rfl ?_) | ((with_reducible show EW _ (.Name "some" _) _ _ _); refine ew_var 1 rfl (by walk_at "vis") rfl ?_) | ((with_reducible show EW _ (.Name "at" _) _ _ _); refine ew_var 2 rfl (by walk_at "vis") rfl ?_) | ((with_reducible show EW _ (.Name "word" _) _ _ _); refine ew_var 3 rfl (by walk_at "vis") rfl ?_))
local macro_rules | `(tactic| walk_at "store") => `(tactic| first | ((with_reducible show SW1 _ (.Assign [.Name "some" _] (.ListComp _ [⟨.Tuple [.Name "at" _, .Name "word" _] _ _, _, _, _⟩] _ _) _) _ _ _); refine s1_setLcT 1 [2, 3] (own := [("at", 2), ("word", 3)]) rfl rfl rfl ?lcA ?lcB ?lcC ?_; (case lcA => first | exact blkOk_by (N := ["clause", "some", "at", "word"]) (sc := defScope s_text_of) (by decide +kernel) | exact blkOk_by rfl); (case lcB => rfl); (case lcC => exact fun nd _ _ _ _ _ => pg_tup rfl (pgs_cons (pg_name (i := 2) nd rfl (by first | exact Or.inl rfl | exact Or.inr rfl) (by first | exact Or.inl rfl | exact Or.inr rfl)) (pgs_cons (pg_name (i := 3) nd rfl (by first | exact Or.inl rfl | exact Or.inr rfl) (by first | exact Or.inl rfl | exact Or.inr rfl)) pgs_nil)))) | ((with_reducible show SW1 _ (.Assign [.Name "clause" _] _ _) _ _ _); refine s1_set (hi := ?shi) (hx := ?shx) 0 ?_; (case shi => exact rfl); (case shx => walk_at "loc")) | ((with_reducible show SW1 _ (.Assign [.Name "some" _] _ _) _ _ _); refine s1_set (hi := ?shi) (hx := ?shx) 1 ?_; (case shi => exact rfl); (case shx => walk_at "loc")) | ((with_reducible show SW1 _ (.Assign [.Name "at" _] _ _) _ _ _); refine s1_set (hi := ?shi) (hx := ?shx) 2 ?_; (case shi => exact rfl); (case shx => walk_at "loc")) | ((with_reducible show SW1 _ (.Assign [.Name "word" _] _ _) _ _ _); refine s1_set (hi := ?shi) (hx := ?shx) 3 ?_; (case shi => exact rfl); (case shx => walk_at "loc")))
local macro_rules | `(tactic| walk_at "gname") => `(tactic| first | ((with_reducible show GW _ (.Name "clause" _) _ _ _ _); refine gw_name 0 rfl (by walk_at "loc") ?_) | ((with_reducible show GW _ (.Name "some" _) _ _ _ _); refine gw_name 1 rfl (by walk_at "loc") ?_) | ((with_reducible show GW _ (.Name "at" _) _ _ _ _); refine gw_name 2 rfl (by walk_at "loc") ?_) | ((with_reducible show GW _ (.Name "word" _) _ _ _ _); refine gw_name 3 rfl (by walk_at "loc") ?_))
local macro_rules | `(tactic| walk_at "par") => `(tactic| first | fail)
local macro_rules | `(tactic| walk_at "lc") => `(tactic| first | ((with_reducible show EW _ (.ListComp _ [⟨.Tuple [.Name "at" _, .Name "word" _] _ _, _, _, _⟩] _ _) _ _ _); walk_at "lcI?"; refine ew_lcIT [2, 3] (own := [("at", 2), ("word", 3)]) ?lcA ?lcB ?lcC ?_; (case lcA => first | exact blkOk_by (N := ["clause", "some", "at", "word"]) (sc := defScope s_text_of) (by decide +kernel) | exact blkOk_by rfl); (case lcB => rfl); (case lcC => exact fun nd _ _ _ _ _ => pg_tup rfl (pgs_cons (pg_name (i := 2) nd rfl (by first | exact Or.inl rfl | exact Or.inr rfl) (by first | exact Or.inl rfl | exact Or.inr rfl)) (pgs_cons (pg_name (i := 3) nd rfl (by first | exact Or.inl rfl | exact Or.inr rfl) (by first | exact Or.inl rfl | exact Or.inr rfl)) pgs_nil)))) | ((with_reducible show EW _ (.ListComp _ [⟨.Tuple [.Name "at" _, .Name "word" _] _ _, _, _, _⟩] _ _) _ _ _); refine ew_lcT [2, 3] (own := [("at", 2), ("word", 3)]) ?lcA ?lcB ?lcC ?_; (case lcA => first | exact blkOk_by (N := ["clause", "some", "at", "word"]) (sc := defScope s_text_of) (by decide +kernel) | exact blkOk_by rfl); (case lcB => rfl); (case lcC => exact fun nd _ _ _ _ _ => pg_tup rfl (pgs_cons (pg_name (i := 2) nd rfl (by first | exact Or.inl rfl | exact Or.inr rfl) (by first | exact Or.inl rfl | exact Or.inr rfl)) (pgs_cons (pg_name (i := 3) nd rfl (by first | exact Or.inl rfl | exact Or.inr rfl) (by first | exact Or.inl rfl | exact Or.inr rfl)) pgs_nil)))) | fail)
open TL
/-! ### the text of a clause -/
abbrev Cl := Int × Int × Int × Int
abbrev clD (g s p c : Int) : D := .tup [.int g, .int s, .int p, .int c]
abbrev clT (q : Cl) : D := clD q.1 q.2.1 q.2.2.1 q.2.2.2
def numS (i : Int) : Str := Str.ofString (toString i)
/-- place, word, value, none -/
def wl (q : Cl) : List (Nat × Str × Int × Int) := [(0, "gap", q.1, -1), (1, "span", q.2.1, 0), (2, "share", q.2.2.1, 0), (3, "ceiling", q.2.2.2, 0)]
def pl (q : Cl) : List (Nat × Str × Int × Int) := (wl q).filter fun x => !decide (x.2.2.1 = x.2.2.2)
def partS (x : Nat × Str × Int × Int) : Str := x.2.1 ++ " " ++ numS x.2.2.1
def partsOf (q : Cl) : List Str := (pl q).map partS
def textD (q : Cl) : Str := Txt.join ", " (partsOf q)
def okQ (q : Cl) : Prop := -1 ≤ q.1 ∧ q.1 ≤ 4 ∧ 0 ≤ q.2.1 ∧ q.2.1 ≤ 5 ∧ ¬ (q.1 = -1 ∧ q.2.1 = 0) ∧ 0 ≤ q.2.2.1 ∧ q.2.2.1 ≤ 4 ∧ 0 ≤ q.2.2.2 ∧ q.2.2.2 ≤ 4
theorem numS_tl {i : Int} (h0 : 0 ≤ i) (h1 : i ≤ 9) : tl (numS i) = [48 + i.toNat] := num_tl h0 h1
theorem numS_len {i : Int} (h0 : 0 ≤ i) (h1 : i ≤ 9) : (numS i).length = 1 := by rw [len_tl, numS_tl h0 h1]; rfl
/-- a part is short, its value is small -/
theorem pl_mem {q : Cl} (h : okQ q) {x : Nat × Str × Int × Int} (hx : x ∈ pl q) : 0 ≤ x.2.2.1 ∧ x.2.2.1 ≤ 5 ∧ (x.2.1 = "gap" ∨ x.2.1 = "span" ∨ x.2.1 = "share" ∨ x.2.1 = "ceiling") := by
  obtain ⟨h1, h2, h3, h4, h5, h6, h7, h8, h9⟩ := h
  obtain ⟨hm, hf⟩ := List.mem_filter.mp hx
  simp only [wl, List.mem_cons, List.not_mem_nil, or_false] at hm
  rcases hm with rfl | rfl | rfl | rfl
  · have : ¬ q.1 = -1 := by simpa using hf
    exact ⟨by show 0 ≤ q.1; omega, by show q.1 ≤ 5; omega, .inl rfl⟩
  · exact ⟨h3, h4, .inr (.inl rfl)⟩
  · exact ⟨h6, by show q.2.2.1 ≤ 5; omega, .inr (.inr (.inl rfl))⟩
  · exact ⟨h8, by show q.2.2.2 ≤ 5; omega, .inr (.inr (.inr rfl))⟩
theorem word_len {z : Str} (h : z = "gap" ∨ z = "span" ∨ z = "share" ∨ z = "ceiling") : z.length ≤ 7 := by
  rcases h with rfl | rfl | rfl | rfl <;> decide
theorem partS_len {q : Cl} (h : okQ q) {x : Nat × Str × Int × Int} (hx : x ∈ pl q) : (partS x).length ≤ 9 := by
  obtain ⟨h1, h2, h3⟩ := pl_mem h hx
  unfold partS
  rw [str_len, str_len, numS_len h1 (by omega)]
  have := word_len h3
  have e : (" " : Str).length = 1 := by decide
  omega
theorem pl_len (q : Cl) : (pl q).length ≤ 4 := List.length_filter_le _ _
theorem parts_sum {q : Cl} (h : okQ q) : ((partsOf q).map (·.length)).sum + (partsOf q).length * (", " : Str).length ≤ 16777216 := by
  have e : (", " : Str).length = 2 := by decide
  have key : ∀ xs : List (Nat × Str × Int × Int), (∀ x ∈ xs, (partS x).length ≤ 9) → ((xs.map partS).map (·.length)).sum ≤ 9 * xs.length := fun xs => by
    induction xs with
    | nil => intro _; simp
    | cons x xs ih =>
      intro hh
      have a := hh x (by simp)
      have b := ih fun y hy => hh y (by simp [hy])
      simp only [List.map_cons, List.sum_cons, List.length_cons]
      omega
  have a := key (pl q) fun x hx => partS_len h hx
  have b := pl_len q
  unfold partsOf
  rw [e, List.length_map]
  omega
def ivD (d : D) : Int := match d with
  | .int i => i
  | _ => 0
def wAt (q : Cl) (d : D) : Nat × Str × Int × Int := match d with
  | .tup [.int i, _] => (wl q).getD i.toNat (0, "", 0, 0)
  | _ => (0, "", 0, 0)
def enW : List D := [.tup [.int 0, .str "gap"], .tup [.int 1, .str "span"], .tup [.int 2, .str "share"], .tup [.int 3, .str "ceiling"]]
theorem enW_is : enumD [.str "gap", .str "span", .str "share", .str "ceiling"] = enW := rfl
theorem parts_items (q : Cl) : (enW.filter fun d => !decide ((wAt q d).2.2.1 = (wAt q d).2.2.2)).map (fun d => D.str (partS (wAt q d))) = (partsOf q).map D.str := by
  have e : wl q = enW.map (wAt q) := rfl
  unfold partsOf pl
  rw [e, List.filter_map, List.map_map, List.map_map]
  rfl
def sp_text : PSpec := fun ds QQ EE => ∃ q, okQ q ∧ ds = [clT q] ∧ QQ (.str (textD q))
theorem ok_text_of (t : Txt K mg) : FnOk Pg w K mg base (L2.CX Pg w) 1 t.a_text_of t.fd_text_of ["clause"] (toSp K T (pureF sp_text)) := by
  refine fn_pure t.F_text_of sc_text_of (by decide) (fun ds QQ EE h => by obtain ⟨_, _, rfl, _⟩ := h; rfl) fun cdv A outer s0 H E ds QQ EE h => ?_
  obtain ⟨⟨g, s, p, c⟩, hq, rfl, q⟩ := h
  have hq' := hq
  obtain ⟨h1, h2, h3, h4, h5, h6, h7, h8, h9⟩ := hq'
  simp only at h1 h2 h3 h4 h5 h6 h7 h8 h9
  rw [show clT (g, s, p, c) = clD g s p c from rfl]
  refine sw_cons ?_
  walk_at "go"
  refine iw_enumT t.b_enumerate rfl ?_
  walk_at "go"
  rw [enW_is]
  refine ⟨by show enW.length ≤ sizeLine; rw [sizeLine_eq]; decide, fun d => !decide ((wAt (g, s, p, c) d).2.2.1 = (wAt (g, s, p, c) d).2.2.2), fun d => D.str (partS (wAt (g, s, p, c) d)), fun n d hd => ?_, ?_⟩
  · have hm := seq_mem hd
    have hn : ∀ i : Int, 0 ≤ i → i ≤ 9 → (Str.ofString (toString i)).length = 1 := fun i => num_len
    simp only [enW, List.mem_cons, List.not_mem_nil, or_false] at hm
    rcases hm with rfl | rfl | rfl | rfl
    all_goals
      refine ⟨⟨_, rfl, rfl⟩, ?_, fun hb => ?_⟩
      · walk_at "tt"
        exact ⟨rfl, rfl⟩
      · try
          have hb' : (!decide (g = -1)) = true := hb
          have hg0 : 0 ≤ g := by
            have : ¬ g = -1 := by simpa using hb'
            omega
        walk_at "te"
        refine bo_addS (by rw [sizeLine_eq, str_len, hn _ (by omega) (by omega)]; exact Nat.le_of_ble_eq_true rfl) ?_
        exact ⟨rfl, rfl⟩
  · have e : ((Src.seq enW).items.filter fun d => !decide ((wAt (g, s, p, c) d).2.2.1 = (wAt (g, s, p, c) d).2.2.2)).map (fun d => D.str (partS (wAt (g, s, p, c) d))) = (partsOf (g, s, p, c)).map D.str := parts_items _
    rw [e]
    walk_at "go"
    refine ⟨_, .self, parts_sum hq, ?_⟩
    walk_at "go"
    exact q
set_option hygiene false in
local macro_rules | `(tactic| walk_at "own") => `(tactic| ((with_reducible show EW _ (.Call (.Name "text_of" _) _ _ _) _ _ _); refine ew_call ⟨ok_text_of t, t.g_text_of, t.F_text_of.kp, t.B_text_of, Nat.le_of_ble_eq_true rfl⟩ rfl ?_))

open TL
def words4 : List Str := ["gap", "span", "share", "ceiling"]
def dig : List Str := ["0", "1", "2", "3", "4", "5"]
theorem inV_str (z : Str) (ws : List Str) : inV (.str z) (ws.map V.str) = decide (z ∈ ws) := by
  unfold inV
  induction ws with
  | nil => simp
  | cons w ws ih =>
    rw [List.map_cons, List.any_cons, ih]
    have e : eqV (.str w) (.str z) = decide (w = z) := by
      show (w == z) = _
      rw [Bool.eq_iff_iff]; simp
    rw [e, Bool.eq_iff_iff]
    simp
    constructor
    · rintro (h | h)
      · exact .inl h.symm
      · exact .inr h
    · rintro (h | h)
      · exact .inl h.symm
      · exact .inr h
theorem dig_num {z : Str} (h : z ∈ dig) : ∃ v : Int, 0 ≤ v ∧ v ≤ 5 ∧ z = numS v := by
  simp only [dig, List.mem_cons, List.not_mem_nil, or_false] at h
  rcases h with rfl | rfl | rfl | rfl | rfl | rfl
  · exact ⟨0, by decide, by decide, by decide +kernel⟩
  · exact ⟨1, by decide, by decide, by decide +kernel⟩
  · exact ⟨2, by decide, by decide, by decide +kernel⟩
  · exact ⟨3, by decide, by decide, by decide +kernel⟩
  · exact ⟨4, by decide, by decide, by decide +kernel⟩
  · exact ⟨5, by decide, by decide, by decide +kernel⟩
theorem num_dig {v : Int} (h0 : 0 ≤ v) (h1 : v ≤ 5) : numS v ∈ dig := by
  rcases (show v = 0 ∨ v = 1 ∨ v = 2 ∨ v = 3 ∨ v = 4 ∨ v = 5 by omega) with rfl | rfl | rfl | rfl | rfl | rfl <;> decide +kernel
theorem num_int {v : Int} (h0 : 0 ≤ v) (h1 : v ≤ 5) : PySem.intText? (numS v) = some v := by
  have e : v = ((v.toNat : Nat) : Int) := by omega
  have z := int_num (n := v.toNat) (by rw [numL_lt (by omega)]; exact Nat.le_of_ble_eq_true rfl)
  rw [← e] at z
  exact z
theorem spl_len (S : List Nat) : ∀ (l : List Nat) (k : Nat) (acc : List Nat), ∀ p ∈ spl S k acc l, p.length ≤ acc.length + l.length
  | [], k, acc, p, hp => by
    rw [spl_nil, List.mem_singleton] at hp
    subst hp; exact Nat.le_add_right _ _
  | c :: r, 0, acc, p, hp => by
    by_cases h : pre S (c :: r) = true
    · rw [spl_hit h] at hp
      rcases List.mem_cons.mp hp with rfl | hp
      · exact Nat.le_add_right _ _
      · have := spl_len S r _ [] p hp
        simp at this ⊢
        omega
    · rw [spl_miss (by simpa using h)] at hp
      have := spl_len S r _ _ p hp
      simp at this ⊢
      omega
  | c :: r, k + 1, acc, p, hp => by
    have := spl_len S r k acc p hp
    simp at this ⊢
    omega
theorem split_len {x y : Str} (hy : tl y ≠ []) (hk : y.cps.all (· < 256) = true) {p : Str} (hp : p ∈ Txt.split x y) : p.length ≤ x.length := by
  have z : tl p ∈ (Txt.split x y).map tl := List.mem_map.mpr ⟨p, hp, rfl⟩
  rw [split_spl x y hy (kind_ok hk)] at z
  have := spl_len _ _ _ _ _ z
  rw [len_tl, len_tl]
  simpa using this
theorem word_tl {z : Str} (h : z = "gap" ∨ z = "span" ∨ z = "share" ∨ z = "ceiling") : 44 ∉ tl z ∧ 32 ∉ tl z := by
  rcases h with rfl | rfl | rfl | rfl <;> decide +kernel
theorem pl_ne {q : Cl} (h : okQ q) : pl q ≠ [] := by
  obtain ⟨g, s, p, c⟩ := q
  intro e
  have h5 := h.2.2.2.2.1
  have e := List.filter_eq_nil_iff.mp e
  have a := e (0, "gap", g, -1) (by simp [wl])
  have b := e (1, "span", s, 0) (by simp [wl])
  simp at a b
  exact h5 ⟨a, b⟩
theorem split_text {q : Cl} (h : okQ q) : Txt.split (textD q) ", " = partsOf q := by
  refine split_join (s := 44) (S := [32]) (by decide +kernel) (by decide +kernel) (fun e => pl_ne h (List.map_eq_nil_iff.mp e)) fun p hp => ?_
  obtain ⟨x, hx, rfl⟩ := List.mem_map.mp hp
  obtain ⟨h1, h2, h3⟩ := pl_mem h hx
  unfold partS
  rw [tl_append, tl_append, numS_tl h1 (by omega), show tl (" " : Str) = [32] by decide +kernel]
  have := (word_tl h3).1
  simp
  exact ⟨by simpa using this, by omega⟩
theorem split_part {q : Cl} (h : okQ q) {x : Nat × Str × Int × Int} (hx : x ∈ pl q) : Txt.split (partS x) " " = [x.2.1, numS x.2.2.1] := by
  obtain ⟨h1, h2, h3⟩ := pl_mem h hx
  have e : partS x = Txt.join " " [x.2.1, numS x.2.2.1] := by rw [join_eq]; rfl
  rw [e]
  refine split_join (s := 32) (S := []) (by decide +kernel) (by decide +kernel) (by simp) fun p hp => ?_
  simp only [List.mem_cons, List.not_mem_nil, or_false] at hp
  rcases hp with rfl | rfl
  · exact (word_tl h3).2
  · rw [numS_tl h1 (by omega)]
    simp
    omega
def setV (f : List Int) (x : Nat × Str × Int × Int) : List Int := f.set x.1 x.2.2.1
def fill (q : Cl) (k : Nat) : List Int := ((pl q).take k).foldl setV [-1, 0, 0, 0]
theorem fill_succ {q : Cl} {k : Nat} {x : Nat × Str × Int × Int} (e : (pl q)[k]? = some x) : fill q (k + 1) = setV (fill q k) x := by
  unfold fill
  rw [List.take_add_one, e, List.foldl_append]; rfl
theorem fill_all (q : Cl) : fill q (pl q).length = [q.1, q.2.1, q.2.2.1, q.2.2.2] := by
  obtain ⟨g, s, p, c⟩ := q
  unfold fill
  rw [List.take_length]
  unfold pl wl
  by_cases h1 : g = -1 <;> by_cases h2 : s = 0 <;> by_cases h3 : p = 0 <;> by_cases h4 : c = 0 <;> simp [h1, h2, h3, h4, setV]
theorem fits_ok {a b c d : Int} (h : fitsD (clD a b c d) = true) : okQ (a, b, c, d) := by
  simp [fitsD, isInt_int, eqv_ii] at h
  show -1 ≤ a ∧ a ≤ 4 ∧ 0 ≤ b ∧ b ≤ 5 ∧ ¬ (a = -1 ∧ b = 0) ∧ 0 ≤ c ∧ c ≤ 4 ∧ 0 ≤ d ∧ d ≤ 4
  omega
theorem fits_Q {q : Cl} (h : okQ q) : fitsD (clT q) = true := by
  obtain ⟨a, b, c, d⟩ := q
  have h : -1 ≤ a ∧ a ≤ 4 ∧ 0 ≤ b ∧ b ≤ 5 ∧ ¬ (a = -1 ∧ b = 0) ∧ 0 ≤ c ∧ c ≤ 4 ∧ 0 ≤ d ∧ d ≤ 4 := h
  show fitsD (clD a b c d) = true
  simp [fitsD, isInt_int, eqv_ii]
  omega

local macro_rules | `(tactic| walk_at "slots") => `(tactic| first | ((with_reducible show EW _ (.Name "value" _) _ _ _); refine ew_var 0 rfl (by walk_at "vis") rfl ?_) | ((with_reducible show EW _ (.Name "found" _) _ _ _); refine ew_var 1 rfl (by walk_at "vis") rfl ?_) | ((with_reducible show EW _ (.Name "part" _) _ _ _); refine ew_var 2 rfl (by walk_at "vis") rfl ?_) | ((with_reducible show EW _ (.Name "words" _) _ _ _); refine ew_var 3 rfl (by walk_at "vis") rfl ?_))
local macro_rules | `(tactic| walk_at "store") => `(tactic| first | ((with_reducible show SW1 _ (.Assign [.Name "found" _] (.List _ _) _) _ _ _); refine s1_set 1 rfl (by walk_at "loc") (ew_lstO ?_)) | ((with_reducible show SW1 _ (.Assign [.Name "value" _] _ _) _ _ _); refine s1_set (hi := ?shi) (hx := ?shx) 0 ?_; (case shi => exact rfl); (case shx => walk_at "loc")) | ((with_reducible show SW1 _ (.Assign [.Name "found" _] _ _) _ _ _); refine s1_set (hi := ?shi) (hx := ?shx) 1 ?_; (case shi => exact rfl); (case shx => walk_at "loc")) | ((with_reducible show SW1 _ (.Assign [.Name "part" _] _ _) _ _ _); refine s1_set (hi := ?shi) (hx := ?shx) 2 ?_; (case shi => exact rfl); (case shx => walk_at "loc")) | ((with_reducible show SW1 _ (.Assign [.Name "words" _] _ _) _ _ _); refine s1_set (hi := ?shi) (hx := ?shx) 3 ?_; (case shi => exact rfl); (case shx => walk_at "loc")))
local macro_rules | `(tactic| walk_at "gname") => `(tactic| first | ((with_reducible show GW _ (.Name "value" _) _ _ _ _); refine gw_name 0 rfl (by walk_at "loc") ?_) | ((with_reducible show GW _ (.Name "found" _) _ _ _ _); refine gw_name 1 rfl (by walk_at "loc") ?_) | ((with_reducible show GW _ (.Name "part" _) _ _ _ _); refine gw_name 2 rfl (by walk_at "loc") ?_) | ((with_reducible show GW _ (.Name "words" _) _ _ _ _); refine gw_name 3 rfl (by walk_at "loc") ?_))
local macro_rules | `(tactic| walk_at "par") => `(tactic| first | fail)
local macro_rules | `(tactic| walk_at "lc") => `(tactic| first | fail)
theorem pl_pos {q : Cl} {x : Nat × Str × Int × Int} (h : x ∈ pl q) : (x.2.1 = "gap" ∧ x.1 = 0) ∨ (x.2.1 = "span" ∧ x.1 = 1) ∨ (x.2.1 = "share" ∧ x.1 = 2) ∨ (x.2.1 = "ceiling" ∧ x.1 = 3) := by
  have hm := (List.mem_filter.mp h).1
  simp only [wl, List.mem_cons, List.not_mem_nil, or_false] at hm
  rcases hm with rfl | rfl | rfl | rfl
  · exact .inl ⟨rfl, rfl⟩
  · exact .inr (.inl ⟨rfl, rfl⟩)
  · exact .inr (.inr (.inl ⟨rfl, rfl⟩))
  · exact .inr (.inr (.inr ⟨rfl, rfl⟩))
theorem seq_map {α : Type} {f : α → D} {xs : List α} {n : Nat} {d : D} (h : (Src.seq (xs.map f)).at n = some d) : ∃ a, xs[n]? = some a ∧ d = f a := by
  have e : (xs.map f)[n]? = some d := h
  rw [List.getElem?_map] at e
  cases q : xs[n]? with
  | none => rw [q] at e; cases e
  | some a => rw [q] at e; exact ⟨a, rfl, (Option.some.inj e).symm⟩
def sp_read (C : Addr) : PSpec := fun ds QQ EE => ∃ d, ds = [d] ∧ d.nv = true ∧ (∀ z, d = .str z → z.length ≤ 1000) ∧ (∀ q, okQ q → d = .str (textD q) → QQ (clT q)) ∧ ((∀ q, okQ q → d ≠ .str (textD q)) → EE (.ref C) [])
section
local macro_rules | `(tactic| walk_at "f") => `(tactic| ((with_reducible show CO _ (.type "list") _ [.tup _] _ _); refine co_listTO ?_))
set_option hygiene false in
local macro_rules | `(tactic| walk_at "e") => `(tactic| ((with_reducible show EW _ (.Call (.Attribute (.Name "WORDS" _) "index" _) _ _ _) _ _ _); refine ew_indexK (ys := words4) t.k_WORDS rfl ?_))
theorem ok_clause_in (t : Txt K mg) : FnOk Pg w K mg base (L2.CX Pg w) 3 t.a_clause_in t.fd_clause_in ["value"] (toSp K T (pureF (sp_read t.c_InvalidText))) := by
  refine fn_pure t.F_clause_in sc_clause_in (by decide) (fun ds QQ EE h => by obtain ⟨_, rfl, _⟩ := h; rfl) fun cdv A outer s0 H E ds QQ EE h => ?_
  obtain ⟨d, rfl, nv, hl, q, qe⟩ := h
  refine sw_cons ?_
  walk_at "go"
  · rename_i z
    have hz := hl z rfl
    have sl : sizeLine = 16777216 := sizeLine_eq
    have qe' : (∀ q, okQ q → z ≠ textD q) → EE (.ref t.c_InvalidText) [] := fun h => qe fun q hq e => h q hq (D.str.inj e)
    have q' : ∀ q, okQ q → z = textD q → QQ (clT q) := fun u hu e => q u hu (congrArg D.str e)
    intro p0
    refine sw_cons (s1_for (iw_list ?_))
    walk_at "go"
    refine ⟨by decide +kernel, by omega, ?_⟩
    walk_at "go"
    refine ⟨fun n ρ ω => ∃ r2 r3 a b c d, ρ = [some (.str z), some (.v (.ref p0)), r2, r3] ∧ ω = [⟨p0, false, .lst [.int a, .int b, .int c, .int d]⟩] ∧ ∀ q, okQ q → z = textD q → [a, b, c, d] = fill q n, ⟨_, _, -1, 0, 0, 0, rfl, rfl, fun _ _ _ => rfl⟩, fun n d ρ ω hd hi => ?_, fun ρ ω hi => ?_⟩
    · obtain ⟨r2, r3, a, b, c, d, rfl, rfl, hf⟩ := hi
      obtain ⟨part, hpart, rfl⟩ := seq_map hd
      have hpl : part.length ≤ z.length := split_len (by decide +kernel) (by decide +kernel) (List.mem_of_getElem? hpart)
      have hq : ∀ q, okQ q → z = textD q → ∃ x, (pl q)[n]? = some x ∧ x ∈ pl q ∧ Txt.split part " " = [x.2.1, numS x.2.2.1] ∧ x.2.1 ∈ words4 ∧ numS x.2.2.1 ∈ dig := fun q hq e => by
        rw [e, split_text hq] at hpart
        unfold partsOf at hpart
        rw [List.getElem?_map] at hpart
        cases hx : (pl q)[n]? with
        | none => rw [hx] at hpart; cases hpart
        | some x =>
          rw [hx] at hpart
          have e2 : part = partS x := (Option.some.inj hpart).symm
          have hm := List.mem_of_getElem? hx
          obtain ⟨h1, h2, h3⟩ := pl_mem hq hm
          exact ⟨x, rfl, hm, by rw [e2]; exact split_part hq hm, by simpa [words4] using h3, num_dig h1 h2⟩
      walk_at "gname"
      walk_at "go"
      refine ⟨by decide +kernel, by omega, ?_⟩
      walk_at "go"
      · rename_i h2
        rw [List.length_map] at h2
        obtain ⟨w1, w2, hw⟩ : ∃ w1 w2, Txt.split part " " = [w1, w2] := by
          match Txt.split part " ", h2 with
          | [w1, w2], _ => exact ⟨_, _, rfl⟩
        rw [hw] at hq ⊢
        walk_at "go"
        refine bo_notInT (v := .str w1) (vs := words4.map V.str) rfl rfl ?_
        rw [inV_str]
        walk_at "go"
        · rename_i h3
          refine bo_notInT (v := .str w2) (vs := dig.map V.str) rfl rfl ?_
          rw [inV_str]
          walk_at "go"
          · rename_i h4
            obtain ⟨v, v0, v1, rfl⟩ := dig_num h4
            refine co_intS (num_int v0 v1) (by rw [numS_len v0 (by omega)]; decide) ?_
            have hq2 : ∀ q, okQ q → z = textD q → ∃ x, (pl q)[n]? = some x ∧ w1 = x.2.1 ∧ x.2.2.1 = v := fun q hq0 e => by
              obtain ⟨x, x1, x2, x3, _⟩ := hq q hq0 e
              have e1 := List.cons.inj x3
              have e2 := (List.cons.inj e1.2).1
              obtain ⟨h1, h2, _⟩ := pl_mem hq0 x2
              have z1 := num_int v0 v1
              rw [e2, num_int h1 h2] at z1
              exact ⟨x, x1, e1.1, Option.some.inj z1⟩
            have hstep : ∀ q, okQ q → z = textD q → ∃ x : Nat × Str × Int × Int, fill q (n + 1) = [a, b, c, d].set x.1 v ∧ w1 = x.2.1 ∧ ((x.2.1 = "gap" ∧ x.1 = 0) ∨ (x.2.1 = "span" ∧ x.1 = 1) ∨ (x.2.1 = "share" ∧ x.1 = 2) ∨ (x.2.1 = "ceiling" ∧ x.1 = 3)) := fun q hq0 e => by
              obtain ⟨x, x1, x2, x3⟩ := hq2 q hq0 e
              refine ⟨x, ?_, x2, pl_pos (List.mem_of_getElem? x1)⟩
              rw [fill_succ x1, ← hf q hq0 e, ← x3]; rfl
            clear hq hq2
            simp only [words4, List.mem_cons, List.not_mem_nil, or_false] at h3
            rcases h3 with rfl | rfl | rfl | rfl
            · walk_at "go"
              refine ⟨_, 0, rfl, rfl, by decide +kernel, ?_⟩
              walk_at "go"
              refine ⟨_, _, v, b, c, d, rfl, rfl, fun q hq0 e => ?_⟩
              obtain ⟨x, x1, x2, x3⟩ := hstep q hq0 e
              rw [← x2] at x3
              rcases x3 with ⟨_, x3⟩ | ⟨x3, _⟩ | ⟨x3, _⟩ | ⟨x3, _⟩
              · rw [x1, x3]; rfl
              · exact absurd x3 (by decide)
              · exact absurd x3 (by decide)
              · exact absurd x3 (by decide)
            · walk_at "go"
              refine ⟨_, 1, rfl, rfl, by decide +kernel, ?_⟩
              walk_at "go"
              refine ⟨_, _, a, v, c, d, rfl, rfl, fun q hq0 e => ?_⟩
              obtain ⟨x, x1, x2, x3⟩ := hstep q hq0 e
              rw [← x2] at x3
              rcases x3 with ⟨x3, _⟩ | ⟨_, x3⟩ | ⟨x3, _⟩ | ⟨x3, _⟩
              · exact absurd x3 (by decide)
              · rw [x1, x3]; rfl
              · exact absurd x3 (by decide)
              · exact absurd x3 (by decide)
            · walk_at "go"
              refine ⟨_, 2, rfl, rfl, by decide +kernel, ?_⟩
              walk_at "go"
              refine ⟨_, _, a, b, v, d, rfl, rfl, fun q hq0 e => ?_⟩
              obtain ⟨x, x1, x2, x3⟩ := hstep q hq0 e
              rw [← x2] at x3
              rcases x3 with ⟨x3, _⟩ | ⟨x3, _⟩ | ⟨_, x3⟩ | ⟨x3, _⟩
              · exact absurd x3 (by decide)
              · exact absurd x3 (by decide)
              · rw [x1, x3]; rfl
              · exact absurd x3 (by decide)
            · walk_at "go"
              refine ⟨_, 3, rfl, rfl, by decide +kernel, ?_⟩
              walk_at "go"
              refine ⟨_, _, a, b, c, v, rfl, rfl, fun q hq0 e => ?_⟩
              obtain ⟨x, x1, x2, x3⟩ := hstep q hq0 e
              rw [← x2] at x3
              rcases x3 with ⟨x3, _⟩ | ⟨x3, _⟩ | ⟨x3, _⟩ | ⟨_, x3⟩
              · exact absurd x3 (by decide)
              · exact absurd x3 (by decide)
              · exact absurd x3 (by decide)
              · rw [x1, x3]; rfl
          · rename_i h4
            refine qe' fun q hq0 e => ?_
            obtain ⟨x, _, _, x3, _, x5⟩ := hq q hq0 e
            have e2 := (List.cons.inj (List.cons.inj x3).2).1
            rw [e2] at h4
            exact h4 x5
        · rename_i h3
          refine qe' fun q hq0 e => ?_
          obtain ⟨x, _, _, x3, x4, _⟩ := hq q hq0 e
          rw [(List.cons.inj x3).1] at h3
          exact h3 x4
      · rename_i h2
        rw [List.length_map] at h2
        refine qe' fun q hq0 e => ?_
        obtain ⟨x, _, _, x3, _⟩ := hq q hq0 e
        rw [x3] at h2
        exact h2 rfl
    · obtain ⟨r2, r3, a, b, c, d, rfl, rfl, hf⟩ := hi
      have hfin : ∀ q, okQ q → z = textD q → q = (a, b, c, d) := fun q hq0 e => by
        have h1 := hf q hq0 e
        have el : (Src.seq ((Txt.split z ", ").map D.str)).len = (pl q).length := by
          rw [e, split_text hq0]
          show ((partsOf q).map D.str).length = _
          rw [List.length_map]; exact List.length_map _
        rw [el, fill_all] at h1
        simp at h1
        obtain ⟨q1, q2, q3, q4⟩ := q
        simp at h1
        simp [h1]
      walk_at "go"
      · rename_i hfit
        have hok := fits_ok hfit
        refine ⟨(a, b, c, d), hok, rfl, ?_⟩
        walk_at "go"
        · rename_i he
          exact q' (a, b, c, d) hok he.symm
        · rename_i he
          refine qe' fun q hq0 e => ?_
          have := hfin q hq0 e
          rw [this] at e
          exact he e.symm
      · rename_i hfit
        refine qe' fun q hq0 e => ?_
        have h1 := fits_Q hq0
        rw [hfin q hq0 e] at h1
        rw [h1] at hfit
        cases hfit
  · rename_i hd
    exact qe fun q hq e => by rw [e] at hd; cases hd
end
set_option hygiene false in
local macro_rules | `(tactic| walk_at "own") => `(tactic| ((with_reducible show EW _ (.Call (.Name "clause_in" _) _ _ _) _ _ _); refine ew_call ⟨ok_clause_in t, t.g_clause_in, t.F_clause_in.kp, t.B_clause_in, Nat.le_of_ble_eq_true rfl⟩ rfl ?_))
local macro_rules | `(tactic| walk_at "slots") => `(tactic| first | ((with_reducible show EW _ (.Name "clause" _) _ _ _); refine ew_var 0 rfl (by walk_at "vis") rfl ?_))
local macro_rules | `(tactic| walk_at "store") => `(tactic| first | ((with_reducible show SW1 _ (.Assign [.Name "clause" _] _ _) _ _ _); refine s1_set (hi := ?shi) (hx := ?shx) 0 ?_; (case shi => exact rfl); (case shx => walk_at "loc")))
local macro_rules | `(tactic| walk_at "gname") => `(tactic| first | ((with_reducible show GW _ (.Name "clause" _) _ _ _ _); refine gw_name 0 rfl (by walk_at "loc") ?_))
local macro_rules | `(tactic| walk_at "par") => `(tactic| first | fail)
local macro_rules | `(tactic| walk_at "lc") => `(tactic| first | fail)
def sp_ctext : PSpec := fun ds QQ EE => ∃ q, okQ q ∧ ds = [clT q] ∧ QQ (.str (textD q))
theorem ok_clause_text (t : Txt K mg) : FnOk Pg w K mg base (L2.CX Pg w) 4 t.a_clause_text t.fd_clause_text ["clause"] (toSp K T (pureF sp_ctext)) := by
  refine fn_pure t.F_clause_text sc_clause_text (by decide) (fun ds QQ EE h => by obtain ⟨_, _, rfl, _⟩ := h; rfl) fun cdv A outer s0 H E ds QQ EE h => ?_
  obtain ⟨q0, hq, rfl, q⟩ := h
  refine sw_cons ?_
  walk_at "go"
  · refine ⟨q0, hq, rfl, ?_⟩
    exact q
  · rename_i h
    rw [fits_Q hq] at h; cases h
set_option hygiene false in
local macro_rules | `(tactic| walk_at "own") => `(tactic| ((with_reducible show EW _ (.Call (.Name "clause_text" _) _ _ _) _ _ _); refine ew_call ⟨ok_clause_text t, t.g_clause_text, t.F_clause_text.kp, t.B_clause_text, Nat.le_of_ble_eq_true rfl⟩ rfl ?_))
local macro_rules | `(tactic| walk_at "slots") => `(tactic| first | ((with_reducible show EW _ (.Name "value" _) _ _ _); refine ew_var 0 rfl (by walk_at "vis") rfl ?_))
local macro_rules | `(tactic| walk_at "store") => `(tactic| first | ((with_reducible show SW1 _ (.Assign [.Name "value" _] _ _) _ _ _); refine s1_set (hi := ?shi) (hx := ?shx) 0 ?_; (case shi => exact rfl); (case shx => walk_at "loc")))
local macro_rules | `(tactic| walk_at "gname") => `(tactic| first | ((with_reducible show GW _ (.Name "value" _) _ _ _ _); refine gw_name 0 rfl (by walk_at "loc") ?_))
local macro_rules | `(tactic| walk_at "par") => `(tactic| first | fail)
local macro_rules | `(tactic| walk_at "lc") => `(tactic| first | fail)
theorem ok_read_clause (t : Txt K mg) : FnOk Pg w K mg base (L2.CX Pg w) 4 t.a_read_clause t.fd_read_clause ["value"] (toSp K T (pureF (sp_read t.c_InvalidText))) := by
  refine fn_pure t.F_read_clause sc_read_clause (by decide) (fun ds QQ EE h => by obtain ⟨_, rfl, _⟩ := h; rfl) fun cdv A outer s0 H E ds QQ EE h => ?_
  obtain ⟨d, rfl, nv, hl, q, qe⟩ := h
  refine sw_cons ?_
  walk_at "go"
  exact ⟨_, rfl, nv, hl, q, qe⟩
set_option hygiene false in
local macro_rules | `(tactic| walk_at "own") => `(tactic| ((with_reducible show EW _ (.Call (.Name "read_clause" _) _ _ _) _ _ _); refine ew_call ⟨ok_read_clause t, t.g_read_clause, t.F_read_clause.kp, t.B_read_clause, Nat.le_of_ble_eq_true rfl⟩ rfl ?_))
local macro_rules | `(tactic| walk_at "slots") => `(tactic| first | ((with_reducible show EW _ (.Name "script" _) _ _ _); refine ew_var 0 rfl (by walk_at "vis") rfl ?_) | ((with_reducible show EW _ (.Name "k" _) _ _ _); refine ew_var 1 rfl (by walk_at "vis") rfl ?_) | ((with_reducible show EW _ (.Name "cell" _) _ _ _); refine ew_var 2 rfl (by walk_at "vis") rfl ?_))
local macro_rules | `(tactic| walk_at "store") => `(tactic| first | ((with_reducible show SW1 _ (.Assign [.Name "script" _] _ _) _ _ _); refine s1_set (hi := ?shi) (hx := ?shx) 0 ?_; (case shi => exact rfl); (case shx => walk_at "loc")) | ((with_reducible show SW1 _ (.Assign [.Name "k" _] _ _) _ _ _); refine s1_set (hi := ?shi) (hx := ?shx) 1 ?_; (case shi => exact rfl); (case shx => walk_at "loc")) | ((with_reducible show SW1 _ (.Assign [.Name "cell" _] _ _) _ _ _); refine s1_set (hi := ?shi) (hx := ?shx) 2 ?_; (case shi => exact rfl); (case shx => walk_at "loc")))
local macro_rules | `(tactic| walk_at "gname") => `(tactic| first | ((with_reducible show GW _ (.Name "script" _) _ _ _ _); refine gw_name 0 rfl (by walk_at "loc") ?_) | ((with_reducible show GW _ (.Name "k" _) _ _ _ _); refine gw_name 1 rfl (by walk_at "loc") ?_) | ((with_reducible show GW _ (.Name "cell" _) _ _ _ _); refine gw_name 2 rfl (by walk_at "loc") ?_))
local macro_rules | `(tactic| walk_at "par") => `(tactic| first | fail)
local macro_rules | `(tactic| walk_at "lc") => `(tactic| first | fail)
/-! ### the law -/
abbrev cupD (x y : Int) : OD := .lst [.int x, .int y]
def sp_cup_of : NSpec := fun ds QQ EE => ∃ ns k, ds = [.lk ns, .int k] ∧ 0 ≤ k ∧ k ≤ 1000 ∧ ∀ x y a, QQ (.v (.ref a)) [(a, cupD x y)]
section
local macro_rules | `(tactic| walk_at "lst") => `(tactic| refine ew_lstO ?_)
theorem ok_u_law_cup_of (t : Txt K mg) : FnOk Pg w K mg base (L2.CX Pg w) 1 t.a_u_law_cup_of t.fd_u_law_cup_of ["script", "k"] (toSp K T (newF sp_cup_of)) := by
  refine fn_new t.F_u_law_cup_of sc_u_law_cup_of (by decide) (fun ds QQ EE h => by obtain ⟨_, _, rfl, _⟩ := h; rfl) fun cdv A outer s H E ds QQ EE h => ?_
  obtain ⟨ns, k, rfl, k0, k1, q⟩ := h
  refine sw_cons ?_
  walk_at "go"
  all_goals (refine fun p => ?_)
  all_goals exact ⟨_, List.Sublist.refl _, q _ _ _⟩
end
set_option hygiene false in
local macro_rules | `(tactic| walk_at "own") => `(tactic| ((with_reducible show EW _ (.Call (.Name "_law_cup_of" _) _ _ _) _ _ _); refine ew_callN ⟨ok_u_law_cup_of t, t.g_u_law_cup_of, t.F_u_law_cup_of.kp, t.B_u_law_cup_of, Nat.le_of_ble_eq_true rfl⟩ rfl ?_))
local macro_rules | `(tactic| walk_at "use") => `(tactic| ((with_reducible show sp_cup_of _ _ _); refine ⟨_, _, rfl, by walk_at "ar", by walk_at "ar", fun x y a => ?_⟩))
local macro_rules | `(tactic| walk_at "slots") => `(tactic| first | ((with_reducible show EW _ (.Name "cup" _) _ _ _); refine ew_var 0 rfl (by walk_at "vis") rfl ?_) | ((with_reducible show EW _ (.Name "many" _) _ _ _); refine ew_var 1 rfl (by walk_at "vis") rfl ?_) | ((with_reducible show EW _ (.Name "found" _) _ _ _); refine ew_var 2 rfl (by walk_at "vis") rfl ?_) | ((with_reducible show EW _ (.Name "wide" _) _ _ _); refine ew_var 3 rfl (by walk_at "vis") rfl ?_))
local macro_rules | `(tactic| walk_at "store") => `(tactic| first | ((with_reducible show SW1 _ (.Assign [.Name "cup" _] (.List _ _) _) _ _ _); refine s1_set 0 rfl (by walk_at "loc") (ew_lstO ?_)) | ((with_reducible show SW1 _ (.Assign [.Name "cup" _] _ _) _ _ _); refine s1_set (hi := ?shi) (hx := ?shx) 0 ?_; (case shi => exact rfl); (case shx => walk_at "loc")) | ((with_reducible show SW1 _ (.Assign [.Name "many" _] _ _) _ _ _); refine s1_set (hi := ?shi) (hx := ?shx) 1 ?_; (case shi => exact rfl); (case shx => walk_at "loc")) | ((with_reducible show SW1 _ (.Assign [.Name "found" _] _ _) _ _ _); refine s1_set (hi := ?shi) (hx := ?shx) 2 ?_; (case shi => exact rfl); (case shx => walk_at "loc")) | ((with_reducible show SW1 _ (.Assign [.Name "wide" _] _ _) _ _ _); refine s1_set (hi := ?shi) (hx := ?shx) 3 ?_; (case shi => exact rfl); (case shx => walk_at "loc")))
local macro_rules | `(tactic| walk_at "gname") => `(tactic| first | ((with_reducible show GW _ (.Name "cup" _) _ _ _ _); refine gw_name 0 rfl (by walk_at "loc") ?_) | ((with_reducible show GW _ (.Name "many" _) _ _ _ _); refine gw_name 1 rfl (by walk_at "loc") ?_) | ((with_reducible show GW _ (.Name "found" _) _ _ _ _); refine gw_name 2 rfl (by walk_at "loc") ?_) | ((with_reducible show GW _ (.Name "wide" _) _ _ _ _); refine gw_name 3 rfl (by walk_at "loc") ?_))
local macro_rules | `(tactic| walk_at "par") => `(tactic| first | fail)
local macro_rules | `(tactic| walk_at "lc") => `(tactic| first | fail)
def sp_drip : MSpec := fun ds a o QQ EE => ∃ many x y, ds = [.v (.ref a), .int many] ∧ 0 < many ∧ many < 2 ^ 30 ∧ o = cupD x y ∧ ∀ r x' y', 0 ≤ r → r < many → QQ (.int r) (cupD x' y')
theorem ok_u_law_drip (t : Txt K mg) : FnOk Pg w K mg base (L2.CX Pg w) 1 t.a_u_law_drip t.fd_u_law_drip ["cup", "many"] (toSp K T (mutF sp_drip)) := by
  refine fn_mut t.F_u_law_drip sc_u_law_drip (by decide) (fun ds a o QQ EE h => by obtain ⟨_, _, _, rfl, _⟩ := h; rfl) fun cdv A outer s H E ds a o QQ EE h => ?_
  obtain ⟨many, x, y, rfl, m0, m1, rfl, q⟩ := h
  have hmod : ∀ z : Int, 0 ≤ z % many ∧ z % many < many := fun z => ⟨Int.emod_nonneg _ (by omega), Int.emod_lt_of_pos _ m0⟩
  refine sw_cons ?_
  walk_at "go"
  · exact ⟨_, rfl, q _ _ _ (hmod x).1 (hmod x).2⟩
  · refine s1_while (fun m ρ ω => ∃ f wd x' y', ρ = [some (.v (.ref a)), some (.int many), some (.int f), some (.int wd)] ∧ ω = [⟨a, true, cupD x' y'⟩] ∧ 1 ≤ wd ∧ m = (many - wd).toNat + (if wd = 1 then 1 else 0)) _ ⟨0, 1, x, y, rfl, rfl, by omega, rfl⟩ fun m ρ ω hi => ?_
    obtain ⟨f, wd, x', y', rfl, rfl, h1, hm⟩ := hi
    walk_at "go"
    · exact ⟨_, by rw [hm]; split <;> omega, _, _, _, _, rfl, rfl, by omega, rfl⟩
    · exact ⟨_, by rw [hm]; split <;> omega, _, _, _, _, rfl, rfl, by omega, rfl⟩
    · exact ⟨_, rfl, q _ _ _ (hmod f).1 (hmod f).2⟩
set_option hygiene false in
local macro_rules | `(tactic| walk_at "own") => `(tactic| ((with_reducible show EW _ (.Call (.Name "_law_drip" _) _ _ _) _ _ _); refine ew_callM 0 ⟨ok_u_law_drip t, t.g_u_law_drip, t.F_u_law_drip.kp, t.B_u_law_drip, Nat.le_of_ble_eq_true rfl⟩ rfl ?_))
local macro_rules | `(tactic| walk_at "use") => `(tactic| ((with_reducible show sp_drip _ _ _ _ _); refine ⟨_, _, _, rfl, by walk_at "ar", by walk_at "ar", rfl, fun r x y _ _ => ?_⟩))
local macro_rules | `(tactic| walk_at "slots") => `(tactic| first | ((with_reducible show EW _ (.Name "cup" _) _ _ _); refine ew_var 0 rfl (by walk_at "vis") rfl ?_) | ((with_reducible show EW _ (.Name "things" _) _ _ _); refine ew_var 1 rfl (by walk_at "vis") rfl ?_))
local macro_rules | `(tactic| walk_at "store") => `(tactic| first | ((with_reducible show SW1 _ (.Assign [.Name "cup" _] _ _) _ _ _); refine s1_set (hi := ?shi) (hx := ?shx) 0 ?_; (case shi => exact rfl); (case shx => walk_at "loc")) | ((with_reducible show SW1 _ (.Assign [.Name "things" _] _ _) _ _ _); refine s1_set (hi := ?shi) (hx := ?shx) 1 ?_; (case shi => exact rfl); (case shx => walk_at "loc")))
local macro_rules | `(tactic| walk_at "gname") => `(tactic| first | ((with_reducible show GW _ (.Name "cup" _) _ _ _ _); refine gw_name 0 rfl (by walk_at "loc") ?_) | ((with_reducible show GW _ (.Name "things" _) _ _ _ _); refine gw_name 1 rfl (by walk_at "loc") ?_))
local macro_rules | `(tactic| walk_at "par") => `(tactic| first | fail)
local macro_rules | `(tactic| walk_at "lc") => `(tactic| first | fail)
def sp_some : MSpec := fun ds a o QQ EE => ∃ xs x y, ds = [.v (.ref a), .lst xs] ∧ 0 < xs.length ∧ xs.length < 2 ^ 30 ∧ o = cupD x y ∧ ∀ d x' y', d ∈ xs → QQ d (cupD x' y')
theorem ok_u_law_some (t : Txt K mg) : FnOk Pg w K mg base (L2.CX Pg w) 2 t.a_u_law_some t.fd_u_law_some ["cup", "things"] (toSp K T (mutF sp_some)) := by
  refine fn_mut t.F_u_law_some sc_u_law_some (by decide) (fun ds a o QQ EE h => by obtain ⟨_, _, _, rfl, _⟩ := h; rfl) fun cdv A outer s H E ds a o QQ EE h => ?_
  obtain ⟨xs, x, y, rfl, m0, m1, rfl, q⟩ := h
  refine sw_cons ?_
  walk_at "go"
  walk_at "ixa"
  walk_at "go"
  exact ⟨_, rfl, q _ _ _ (List.mem_of_getElem? ‹_›)⟩
set_option hygiene false in
local macro_rules | `(tactic| walk_at "own") => `(tactic| ((with_reducible show EW _ (.Call (.Name "_law_some" _) _ _ _) _ _ _); refine ew_callM 0 ⟨ok_u_law_some t, t.g_u_law_some, t.F_u_law_some.kp, t.B_u_law_some, Nat.le_of_ble_eq_true rfl⟩ rfl ?_))
local macro_rules | `(tactic| walk_at "use") => `(tactic| ((with_reducible show sp_some _ _ _ _ _); refine ⟨_, _, _, rfl, by walk_at "ar", by walk_at "ar", rfl, fun d x y hd => ?_⟩))
local macro_rules | `(tactic| walk_at "slots") => `(tactic| first | ((with_reducible show EW _ (.Name "cup" _) _ _ _); refine ew_var 0 rfl (by walk_at "vis") rfl ?_) | ((with_reducible show EW _ (.Name "gap" _) _ _ _); refine ew_var 1 rfl (by walk_at "vis") rfl ?_) | ((with_reducible show EW _ (.Name "span" _) _ _ _); refine ew_var 2 rfl (by walk_at "vis") rfl ?_))
local macro_rules | `(tactic| walk_at "store") => `(tactic| first | ((with_reducible show SW1 _ (.Assign [.Name "cup" _] _ _) _ _ _); refine s1_set (hi := ?shi) (hx := ?shx) 0 ?_; (case shi => exact rfl); (case shx => walk_at "loc")) | ((with_reducible show SW1 _ (.Assign [.Name "gap" _] _ _) _ _ _); refine s1_set (hi := ?shi) (hx := ?shx) 1 ?_; (case shi => exact rfl); (case shx => walk_at "loc")) | ((with_reducible show SW1 _ (.Assign [.Name "span" _] _ _) _ _ _); refine s1_set (hi := ?shi) (hx := ?shx) 2 ?_; (case shi => exact rfl); (case shx => walk_at "loc")))
local macro_rules | `(tactic| walk_at "gname") => `(tactic| first | ((with_reducible show GW _ (.Name "cup" _) _ _ _ _); refine gw_name 0 rfl (by walk_at "loc") ?_) | ((with_reducible show GW _ (.Name "gap" _) _ _ _ _); refine gw_name 1 rfl (by walk_at "loc") ?_) | ((with_reducible show GW _ (.Name "span" _) _ _ _ _); refine gw_name 2 rfl (by walk_at "loc") ?_))
local macro_rules | `(tactic| walk_at "par") => `(tactic| first | fail)
local macro_rules | `(tactic| walk_at "lc") => `(tactic| first | fail)
/-- a clause that fits -/
def clOk (g s p c : Int) : Prop := -1 ≤ g ∧ g ≤ 4 ∧ 0 ≤ s ∧ s ≤ 5 ∧ ¬ (g = -1 ∧ s = 0) ∧ 0 ≤ p ∧ p ≤ 4 ∧ 0 ≤ c ∧ c ≤ 4
def sp_rule : MSpec := fun ds a o QQ EE => ∃ x y, ds = [.v (.ref a)] ∧ o = cupD x y ∧ ∀ g s p c x' y', clOk g s p c → QQ (.tup [.int g, .int s, .int p, .int c]) (cupD x' y')
theorem ok_u_law_rule (t : Txt K mg) : FnOk Pg w K mg base (L2.CX Pg w) 3 t.a_u_law_rule t.fd_u_law_rule ["cup"] (toSp K T (mutF sp_rule)) := by
  refine fn_mut t.F_u_law_rule sc_u_law_rule (by decide) (fun ds a o QQ EE h => by obtain ⟨_, _, rfl, _⟩ := h; rfl) fun cdv A outer s H E ds a o QQ EE h => ?_
  obtain ⟨x, y, rfl, rfl, q⟩ := h
  refine sw_cons ?_
  walk_at "go"
  rename_i d x' y' hd
  obtain ⟨g, s, rfl, hg⟩ : ∃ g s, d = .tup [.int g, .int s] ∧ (-1 ≤ g ∧ g ≤ 4 ∧ 0 ≤ s ∧ s ≤ 5 ∧ ¬ (g = -1 ∧ s = 0)) := by
    simp at hd
    rcases hd with rfl | rfl | rfl | rfl | rfl | rfl | rfl | rfl | rfl | rfl <;> exact ⟨_, _, rfl, by decide⟩
  walk_at "go"
  rename_i d1 x1 y1 h1 d2 x2 y2 h2
  obtain ⟨p, rfl, hp⟩ : ∃ p, d1 = .int p ∧ 0 ≤ p ∧ p ≤ 4 := by
    simp at h1
    rcases h1 with rfl | rfl | rfl | rfl | rfl | rfl | rfl <;> exact ⟨_, rfl, by decide⟩
  obtain ⟨c, rfl, hc⟩ : ∃ c, d2 = .int c ∧ 0 ≤ c ∧ c ≤ 4 := by
    simp at h2
    rcases h2 with rfl | rfl | rfl | rfl | rfl | rfl | rfl <;> exact ⟨_, rfl, by decide⟩
  exact ⟨_, rfl, q _ _ _ _ _ _ ⟨hg.1, hg.2.1, hg.2.2.1, hg.2.2.2.1, hg.2.2.2.2, hp.1, hp.2, hc.1, hc.2⟩⟩
set_option hygiene false in
local macro_rules | `(tactic| walk_at "own") => `(tactic| ((with_reducible show EW _ (.Call (.Name "_law_rule" _) _ _ _) _ _ _); refine ew_callM 0 ⟨ok_u_law_rule t, t.g_u_law_rule, t.F_u_law_rule.kp, t.B_u_law_rule, Nat.le_of_ble_eq_true rfl⟩ rfl ?_))
local macro_rules | `(tactic| walk_at "use") => `(tactic| ((with_reducible show sp_rule _ _ _ _ _); refine ⟨_, _, rfl, rfl, fun g s p c _ _ hcl => ?_⟩))
local macro_rules | `(tactic| walk_at "slots") => `(tactic| first | ((with_reducible show EW _ (.Name "rule" _) _ _ _); refine ew_var 0 rfl (by walk_at "vis") rfl ?_) | ((with_reducible show EW _ (.Name "some" _) _ _ _); refine ew_var 1 rfl (by walk_at "vis") rfl ?_) | ((with_reducible show EW _ (.Name "at" _) _ _ _); refine ew_var 2 rfl (by walk_at "vis") rfl ?_) | ((with_reducible show EW _ (.Name "word" _) _ _ _); refine ew_var 3 rfl (by walk_at "vis") rfl ?_))
local macro_rules | `(tactic| walk_at "store") => `(tactic| first | ((with_reducible show SW1 _ (.Assign [.Name "some" _] (.List _ _) _) _ _ _); refine s1_set 1 rfl (by walk_at "loc") (ew_lstO ?_)) | ((with_reducible show SW1 _ (.Assign [.Name "rule" _] _ _) _ _ _); refine s1_set (hi := ?shi) (hx := ?shx) 0 ?_; (case shi => exact rfl); (case shx => walk_at "loc")) | ((with_reducible show SW1 _ (.Assign [.Name "some" _] _ _) _ _ _); refine s1_set (hi := ?shi) (hx := ?shx) 1 ?_; (case shi => exact rfl); (case shx => walk_at "loc")) | ((with_reducible show SW1 _ (.Assign [.Name "at" _] _ _) _ _ _); refine s1_set (hi := ?shi) (hx := ?shx) 2 ?_; (case shi => exact rfl); (case shx => walk_at "loc")) | ((with_reducible show SW1 _ (.Assign [.Name "word" _] _ _) _ _ _); refine s1_set (hi := ?shi) (hx := ?shx) 3 ?_; (case shi => exact rfl); (case shx => walk_at "loc")))
local macro_rules | `(tactic| walk_at "gname") => `(tactic| first | ((with_reducible show GW _ (.Name "rule" _) _ _ _ _); refine gw_name 0 rfl (by walk_at "loc") ?_) | ((with_reducible show GW _ (.Name "some" _) _ _ _ _); refine gw_name 1 rfl (by walk_at "loc") ?_) | ((with_reducible show GW _ (.Name "at" _) _ _ _ _); refine gw_name 2 rfl (by walk_at "loc") ?_) | ((with_reducible show GW _ (.Name "word" _) _ _ _ _); refine gw_name 3 rfl (by walk_at "loc") ?_))
local macro_rules | `(tactic| walk_at "par") => `(tactic| first | fail)
local macro_rules | `(tactic| walk_at "lc") => `(tactic| first | fail)
open TL
def partsN (q : Cl) (n : Nat) : List Str := (((wl q).take n).filter fun x => !decide (x.2.2.1 = x.2.2.2)).map partS
theorem partsN_len (q : Cl) (n : Nat) : (partsN q n).length ≤ n := by
  unfold partsN
  rw [List.length_map]
  exact Nat.le_trans (List.length_filter_le _ _) (List.length_take_le _ _)
theorem partsN_succ {q : Cl} {n : Nat} {x : Nat × Str × Int × Int} (h : (wl q)[n]? = some x) : partsN q (n + 1) = if x.2.2.1 = x.2.2.2 then partsN q n else partsN q n ++ [partS x] := by
  unfold partsN
  rw [List.take_add_one, h, List.filter_append, List.map_append]
  by_cases e : x.2.2.1 = x.2.2.2 <;> simp [e]
def sp_writing : PSpec := fun ds QQ EE => ∃ q, okQ q ∧ ds = [clT q] ∧ QQ (.str (textD q))
theorem ok_u_law_writing (t : Txt K mg) : FnOk Pg w K mg base (L2.CX Pg w) 1 t.a_u_law_writing t.fd_u_law_writing ["rule"] (toSp K T (pureF sp_writing)) := by
  refine fn_pure t.F_u_law_writing sc_u_law_writing (by decide) (fun ds QQ EE h => by obtain ⟨_, _, rfl, _⟩ := h; rfl) fun cdv A outer s0 H E ds QQ EE h => ?_
  obtain ⟨⟨g, s, p, c⟩, hq, rfl, q⟩ := h
  have hq' := hq
  obtain ⟨h1, h2, h3, h4, h5, h6, h7, h8, h9⟩ := hq'
  simp only at h1 h2 h3 h4 h5 h6 h7 h8 h9
  rw [show clT (g, s, p, c) = clD g s p c from rfl]
  have hn : ∀ i : Int, 0 ≤ i → i ≤ 9 → (Str.ofString (toString i)).length = 1 := fun i => num_len
  refine sw_cons ?_
  walk_at "go"
  intro p0
  refine sw_cons (s1_for (iw_enum t.b_enumerate rfl ?_))
  walk_at "go"
  rw [enW_is]
  refine ⟨fun n ρ ω => ∃ r2 r3, ρ = [some (clD g s p c), some (.v (.ref p0)), r2, r3] ∧ ω = [⟨p0, false, .lst ((partsN (g, s, p, c) n).map D.str)⟩], ⟨_, _, rfl, rfl⟩, fun n d ρ ω hd hi => ?_, fun ρ ω hi => ?_⟩
  · obtain ⟨r2, r3, rfl, rfl⟩ := hi
    have hln := partsN_len (g, s, p, c) n
    rcases n with _ | _ | _ | _ | n
    · cases hd
      have hs := partsN_succ (q := (g, s, p, c)) (n := 0) (x := (0, "gap", g, -1)) rfl
      simp only at hs
      walk_at "go"
      all_goals first
        | (refine bo_addS (by rw [sizeLine_eq, str_len, hn _ (by omega) (by omega)]; exact Nat.le_of_ble_eq_true rfl) ?_
           walk_at "go"
           rw [if_neg (by omega)] at hs
           refine ⟨_, _, rfl, ?_⟩
           rw [hs, List.map_append]
           rfl)
        | (rw [if_pos (by omega)] at hs
           refine ⟨_, _, rfl, ?_⟩
           rw [hs])
    · cases hd
      have hs := partsN_succ (q := (g, s, p, c)) (n := 1) (x := (1, "span", s, 0)) rfl
      simp only at hs
      walk_at "go"
      all_goals first
        | (refine bo_addS (by rw [sizeLine_eq, str_len, hn _ (by omega) (by omega)]; exact Nat.le_of_ble_eq_true rfl) ?_
           walk_at "go"
           rw [if_neg (by omega)] at hs
           refine ⟨_, _, rfl, ?_⟩
           rw [hs, List.map_append]
           rfl)
        | (rw [if_pos (by omega)] at hs
           refine ⟨_, _, rfl, ?_⟩
           rw [hs])
    · cases hd
      have hs := partsN_succ (q := (g, s, p, c)) (n := 2) (x := (2, "share", p, 0)) rfl
      simp only at hs
      walk_at "go"
      all_goals first
        | (refine bo_addS (by rw [sizeLine_eq, str_len, hn _ (by omega) (by omega)]; exact Nat.le_of_ble_eq_true rfl) ?_
           walk_at "go"
           rw [if_neg (by omega)] at hs
           refine ⟨_, _, rfl, ?_⟩
           rw [hs, List.map_append]
           rfl)
        | (rw [if_pos (by omega)] at hs
           refine ⟨_, _, rfl, ?_⟩
           rw [hs])
    · cases hd
      have hs := partsN_succ (q := (g, s, p, c)) (n := 3) (x := (3, "ceiling", c, 0)) rfl
      simp only at hs
      walk_at "go"
      all_goals first
        | (refine bo_addS (by rw [sizeLine_eq, str_len, hn _ (by omega) (by omega)]; exact Nat.le_of_ble_eq_true rfl) ?_
           walk_at "go"
           rw [if_neg (by omega)] at hs
           refine ⟨_, _, rfl, ?_⟩
           rw [hs, List.map_append]
           rfl)
        | (rw [if_pos (by omega)] at hs
           refine ⟨_, _, rfl, ?_⟩
           rw [hs])
    · cases hd
  · obtain ⟨r2, r3, rfl, rfl⟩ := hi
    walk_at "go"
    refine ⟨partsOf (g, s, p, c), .cel 0 rfl, parts_sum hq, ?_⟩
    walk_at "go"
    exact q
set_option hygiene false in
local macro_rules | `(tactic| walk_at "own") => `(tactic| ((with_reducible show EW _ (.Call (.Name "_law_writing" _) _ _ _) _ _ _); refine ew_call ⟨ok_u_law_writing t, t.g_u_law_writing, t.F_u_law_writing.kp, t.B_u_law_writing, Nat.le_of_ble_eq_true rfl⟩ rfl ?_))

open TL
theorem fold_inj {q q' : Cl} (hq : okQ q) (hq' : okQ q') : ∀ (xs ys : List (Nat × Str × Int × Int)), (∀ x ∈ xs, x ∈ pl q) → (∀ y ∈ ys, y ∈ pl q') → xs.map partS = ys.map partS → ∀ f : List Int, xs.foldl setV f = ys.foldl setV f
  | [], [], _, _, _, _ => rfl
  | [], _ :: _, _, _, h, _ => by cases h
  | _ :: _, [], _, _, h, _ => by cases h
  | x :: xs, y :: ys, hx, hy, h, f => by
    rw [List.map_cons, List.map_cons] at h
    have h1 := (List.cons.inj h).1
    have a := split_part hq (hx x (by simp))
    rw [h1, split_part hq' (hy y (by simp))] at a
    have b1 := (List.cons.inj a).1
    have b2 := (List.cons.inj (List.cons.inj a).2).1
    obtain ⟨u1, u2, _⟩ := pl_mem hq (hx x (by simp))
    obtain ⟨v1, v2, _⟩ := pl_mem hq' (hy y (by simp))
    have z := num_int u1 u2
    rw [← b2, num_int v1 v2] at z
    have b3 := Option.some.inj z
    have p1 := pl_pos (hx x (by simp))
    have p2 := pl_pos (hy y (by simp))
    rw [b1] at p2
    have e : x.1 = y.1 := by
      rcases p1 with ⟨a1, a2⟩ | ⟨a1, a2⟩ | ⟨a1, a2⟩ | ⟨a1, a2⟩ <;> rcases p2 with ⟨c1, c2⟩ | ⟨c1, c2⟩ | ⟨c1, c2⟩ | ⟨c1, c2⟩ <;> first | exact a2.trans c2.symm | (rw [a1] at c1; exact absurd c1 (by decide))
    have es : setV f x = setV f y := by unfold setV; rw [e, b3]
    rw [List.foldl_cons, List.foldl_cons, es]
    exact fold_inj hq hq' xs ys (fun z hz => hx z (by simp [hz])) (fun z hz => hy z (by simp [hz])) (List.cons.inj h).2 _
theorem text_inj {q q' : Cl} (hq : okQ q) (hq' : okQ q') (e : textD q = textD q') : q = q' := by
  have a := split_text hq
  rw [e, split_text hq'] at a
  have z := fold_inj hq hq' (pl q) (pl q') (fun _ h => h) (fun _ h => h) a.symm [-1, 0, 0, 0]
  have f1 := fill_all q
  have f2 := fill_all q'
  unfold fill at f1 f2
  rw [List.take_length] at f1 f2
  rw [f1, f2] at z
  obtain ⟨a1, a2, a3, a4⟩ := q
  obtain ⟨b1, b2, b3, b4⟩ := q'
  simp at z
  simp [z]
theorem valD_put (kvs : List (Key × D)) (k k' : Key) (d : D) : valD (putD kvs k d) k' = if k' = k then some d else valD kvs k' := by
  unfold putD
  split
  · rename_i h
    have key : ∀ kvs : List (Key × D), valD (kvs.map fun p => if p.1 = k then (p.1, d) else p) k' = if k' = k then (if (kvs.any fun p => decide (p.1 = k)) = true then some d else none) else valD kvs k' := fun kvs => by
      induction kvs with
      | nil => simp [valD]
      | cons p r ih =>
        unfold valD at ih ⊢
        rw [List.map_cons]
        by_cases e : p.1 = k
        · rw [if_pos e]
          by_cases e2 : k' = k
          · subst e2; simp [e]
          · have : ¬ p.1 = k' := fun h => e2 (by rw [← h, e])
            rw [if_neg e2] at ih ⊢
            rw [List.find?_cons, List.find?_cons]
            simp only [this, decide_false]
            exact ih
        · rw [if_neg e]
          by_cases e2 : k' = k
          · subst e2
            rw [if_pos rfl] at ih ⊢
            rw [List.find?_cons]
            simp only [e, decide_false, List.any_cons, Bool.false_or]
            exact ih
          · rw [if_neg e2] at ih ⊢
            rw [List.find?_cons, List.find?_cons]
            by_cases e3 : p.1 = k'
            · simp [e3]
            · simp only [e3, decide_false]
              exact ih
    rw [key, if_pos h]
  · rename_i h
    unfold valD
    rw [List.find?_append]
    by_cases e2 : k' = k
    · subst e2
      have : kvs.find? (fun p => decide (p.1 = k')) = none := by
        rw [List.find?_eq_none]
        intro x hx hh
        exact h (List.any_eq_true.mpr ⟨x, hx, hh⟩)
      rw [this, if_pos rfl]
      simp
    · rw [if_neg e2]
      have : ([(k, d)] : List (Key × D)).find? (fun p => decide (p.1 = k')) = none := by
        simp
        exact fun h => e2 h.symm
      rw [this]
      simp
theorem mem_put {kvs : List (Key × D)} {k : Key} {d : D} {p : Key × D} (h : p ∈ putD kvs k d) : p ∈ kvs ∨ p = (k, d) := by
  unfold putD at h
  split at h
  · obtain ⟨x, hx, e⟩ := List.mem_map.mp h
    by_cases e1 : x.1 = k
    · rw [if_pos e1] at e
      exact .inr (by rw [← e, e1])
    · rw [if_neg e1] at e
      exact .inl (e ▸ hx)
  · rcases List.mem_append.mp h with h | h
    · exact .inl h
    · exact .inr (List.mem_singleton.mp h)
theorem len_put (kvs : List (Key × D)) (k : Key) (d : D) : (putD kvs k d).length ≤ kvs.length + 1 := by
  unfold putD
  split
  · rw [List.length_map]; exact Nat.le_succ _
  · rw [List.length_append]; exact Nat.le_refl _
/-- the clauses that have been put -/
def dn (n m k : Nat) (q : Cl) : Prop := okQ q ∧ (q.1 + 1 < n ∨ (q.1 + 1 = n ∧ (q.2.1 < m ∨ (q.2.1 = m ∧ 5 * q.2.2.1 + q.2.2.2 < k))))
def TI (kvs : List (Key × D)) (n m k : Nat) : Prop := (∀ p ∈ kvs, ∃ q, okQ q ∧ p = (.inr (textD q), clT q)) ∧ (∀ q, dn n m k q → valD kvs (.inr (textD q)) = some (clT q)) ∧ kvs.length ≤ 150 * n + 25 * m + k
def TblOk (kvs : List (Key × D)) : Prop := (∀ p ∈ kvs, ∃ q, okQ q ∧ p = (.inr (textD q), clT q)) ∧ (∀ q, okQ q → valD kvs (.inr (textD q)) = some (clT q)) ∧ kvs.length ≤ 1000
theorem TI_put {kvs : List (Key × D)} {n m k : Nat} {q0 : Cl} (h : TI kvs n m k) (hq : okQ q0) (hd : ∀ q, dn n m (k + 1) q → q = q0 ∨ dn n m k q) : TI (putD kvs (.inr (textD q0)) (clT q0)) n m (k + 1) := by
  obtain ⟨h1, h2, h3⟩ := h
  refine ⟨fun p hp => ?_, fun q hq2 => ?_, by have := len_put kvs (.inr (textD q0)) (clT q0); omega⟩
  · rcases mem_put hp with hp | rfl
    · exact h1 p hp
    · exact ⟨q0, hq, rfl⟩
  · rw [valD_put]
    by_cases e : (Sum.inr (textD q) : Key) = .inr (textD q0)
    · rw [if_pos e]
      rw [text_inj hq2.1 hq (Sum.inr.inj e)]
    · rw [if_neg e]
      rcases hd q hq2 with rfl | hd
      · exact absurd rfl e
      · exact h2 q hd
theorem tbl_none {kvs : List (Key × D)} (h : TblOk kvs) {z : Str} (hz : ∀ q, okQ q → z ≠ textD q) : valD kvs (.inr z) = none := by
  unfold valD
  rw [Option.map_eq_none_iff, List.find?_eq_none]
  intro p hp hh
  obtain ⟨q, hq, rfl⟩ := h.1 p hp
  have e := of_decide_eq_true hh
  exact hz q hq (Sum.inr.inj e).symm

local macro_rules | `(tactic| walk_at "slots") => `(tactic| first | ((with_reducible show EW _ (.Name "found" _) _ _ _); refine ew_var 0 rfl (by walk_at "vis") rfl ?_) | ((with_reducible show EW _ (.Name "gap" _) _ _ _); refine ew_var 1 rfl (by walk_at "vis") rfl ?_) | ((with_reducible show EW _ (.Name "span" _) _ _ _); refine ew_var 2 rfl (by walk_at "vis") rfl ?_) | ((with_reducible show EW _ (.Name "rest" _) _ _ _); refine ew_var 3 rfl (by walk_at "vis") rfl ?_) | ((with_reducible show EW _ (.Name "rule" _) _ _ _); refine ew_var 4 rfl (by walk_at "vis") rfl ?_))
local macro_rules | `(tactic| walk_at "store") => `(tactic| first | ((with_reducible show SW1 _ (.Assign [.Name "found" _] (.List _ _) _) _ _ _); refine s1_set 0 rfl (by walk_at "loc") (ew_lstO ?_)) | ((with_reducible show SW1 _ (.Assign [.Name "found" _] _ _) _ _ _); refine s1_set (hi := ?shi) (hx := ?shx) 0 ?_; (case shi => exact rfl); (case shx => walk_at "loc")) | ((with_reducible show SW1 _ (.Assign [.Name "gap" _] _ _) _ _ _); refine s1_set (hi := ?shi) (hx := ?shx) 1 ?_; (case shi => exact rfl); (case shx => walk_at "loc")) | ((with_reducible show SW1 _ (.Assign [.Name "span" _] _ _) _ _ _); refine s1_set (hi := ?shi) (hx := ?shx) 2 ?_; (case shi => exact rfl); (case shx => walk_at "loc")) | ((with_reducible show SW1 _ (.Assign [.Name "rest" _] _ _) _ _ _); refine s1_set (hi := ?shi) (hx := ?shx) 3 ?_; (case shi => exact rfl); (case shx => walk_at "loc")) | ((with_reducible show SW1 _ (.Assign [.Name "rule" _] _ _) _ _ _); refine s1_set (hi := ?shi) (hx := ?shx) 4 ?_; (case shi => exact rfl); (case shx => walk_at "loc")))
local macro_rules | `(tactic| walk_at "gname") => `(tactic| first | ((with_reducible show GW _ (.Name "found" _) _ _ _ _); refine gw_name 0 rfl (by walk_at "loc") ?_) | ((with_reducible show GW _ (.Name "gap" _) _ _ _ _); refine gw_name 1 rfl (by walk_at "loc") ?_) | ((with_reducible show GW _ (.Name "span" _) _ _ _ _); refine gw_name 2 rfl (by walk_at "loc") ?_) | ((with_reducible show GW _ (.Name "rest" _) _ _ _ _); refine gw_name 3 rfl (by walk_at "loc") ?_) | ((with_reducible show GW _ (.Name "rule" _) _ _ _ _); refine gw_name 4 rfl (by walk_at "loc") ?_))
local macro_rules | `(tactic| walk_at "par") => `(tactic| first | fail)
local macro_rules | `(tactic| walk_at "lc") => `(tactic| first | fail)
def sp_table : NSpec := fun ds QQ EE => ds = [] ∧ ∀ a kvs, TblOk kvs → QQ (.v (.ref a)) [(a, .dK kvs)]
section
local macro_rules | `(tactic| walk_at "s") => `(tactic| ((with_reducible show SW1 _ (.Assign [.Subscript (.Name "found" _) _ _] _ _) _ _ _); refine s1_dput 0 ?_))
theorem ok_u_law_table (t : Txt K mg) : FnOk Pg w K mg base (L2.CX Pg w) 2 t.a_u_law_table t.fd_u_law_table [] (toSp K T (newF sp_table)) := by
  refine fn_new t.F_u_law_table sc_u_law_table (by decide) (fun ds QQ EE h => by obtain ⟨rfl, _⟩ := h; rfl) fun cdv A outer s0 H E ds QQ EE h => ?_
  obtain ⟨rfl, q⟩ := h
  refine sw_cons ?_
  walk_at "go"
  intro p0
  refine sw_cons (s1_for (iw_range2 t.b_range rfl ?_))
  walk_at "go"
  refine ⟨_, _, rfl, rfl, by decide, fun n ρ ω => ∃ r1 r2 r3 r4 kvs, ρ = [some (.v (.ref p0)), r1, r2, r3, r4] ∧ ω = [⟨p0, false, .dK kvs⟩] ∧ TI kvs n 0 0, ⟨_, _, _, _, [], rfl, rfl, (fun _ h => nomatch h), (fun q hq => ?_), Nat.zero_le _⟩, fun n d ρ ω hd hi => ?_, fun ρ ω hi => ?_⟩
  · exfalso
    obtain ⟨⟨h1, h2, h3, h4, h5, h6, h7, h8, h9⟩, h⟩ := hq
    omega
  · obtain ⟨r1, r2, r3, r4, kvs, rfl, rfl, ht⟩ := hi
    obtain ⟨hn, rfl⟩ := rng_at hd
    have hn6 : n < 6 := hn
    walk_at "gname"
    walk_at "go"
    refine s1_for (iw_range1 t.b_range rfl ?_)
    walk_at "go"
    refine ⟨by decide, by decide, fun m ρ ω => ∃ r2 r3 r4 kvs, ρ = [some (.v (.ref p0)), some (.int (-1 + (n : Int))), r2, r3, r4] ∧ ω = [⟨p0, false, .dK kvs⟩] ∧ TI kvs n m 0, ⟨_, _, _, kvs, rfl, rfl, ht⟩, fun m d ρ ω hd hi => ?_, fun ρ ω hi => ?_⟩
    · obtain ⟨r2, r3, r4, kvs, rfl, rfl, ht⟩ := hi
      obtain ⟨hm, rfl⟩ := rng_at hd
      have hm6 : m < 6 := hm
      walk_at "gname"
      walk_at "go"
      refine s1_for (iw_range1 t.b_range rfl ?_)
      walk_at "go"
      refine ⟨by decide, by decide, fun k ρ ω => ∃ r3 r4 kvs, ρ = [some (.v (.ref p0)), some (.int (-1 + (n : Int))), some (.int (0 + (m : Int))), r3, r4] ∧ ω = [⟨p0, false, .dK kvs⟩] ∧ TI kvs n m k, ⟨_, _, kvs, rfl, rfl, ht⟩, fun k d ρ ω hd hi => ?_, fun ρ ω hi => ?_⟩
      · obtain ⟨r3, r4, kvs, rfl, rfl, ht⟩ := hi
        obtain ⟨hk, rfl⟩ := rng_at hd
        have hk5 : k < 25 := hk
        have hkl := ht.2.2
        walk_at "go"
        rotate_left 2
        · refine ⟨_, _, kvs, rfl, rfl, ht.1, fun q hq => ht.2.1 q ?_, by omega⟩
          obtain ⟨h0, h⟩ := hq
          have h0' := h0
          obtain ⟨h1, h2, h3, h4, h5, h6, h7, h8, h9⟩ := h0'
          exact ⟨h0, by omega⟩
        all_goals
          have hok : okQ (-1 + (n : Int), 0 + (m : Int), (0 + (k : Int)) / 5, (0 + (k : Int)) % 5) := by
            show -1 ≤ -1 + (n : Int) ∧ -1 + (n : Int) ≤ 4 ∧ 0 ≤ 0 + (m : Int) ∧ 0 + (m : Int) ≤ 5 ∧ ¬ (-1 + (n : Int) = -1 ∧ 0 + (m : Int) = 0) ∧ 0 ≤ (0 + (k : Int)) / 5 ∧ (0 + (k : Int)) / 5 ≤ 4 ∧ 0 ≤ (0 + (k : Int)) % 5 ∧ (0 + (k : Int)) % 5 ≤ 4
            omega
          refine ⟨_, hok, rfl, ?_⟩
          refine ⟨_, _, _, .inr _, rfl, rfl, rfl, by rw [sizeLine_eq]; omega, ?_⟩
          walk_at "go"
          refine ⟨_, _, _, rfl, rfl, TI_put ht hok fun q hq => ?_⟩
          obtain ⟨h0, h⟩ := hq
          have h0' := h0
          obtain ⟨h1, h2, h3, h4, h5, h6, h7, h8, h9⟩ := h0'
          by_cases e : q.1 + 1 = n ∧ q.2.1 = m ∧ 5 * q.2.2.1 + q.2.2.2 = k
          · left
            obtain ⟨a, b, c, d⟩ := q
            simp only at h1 h2 h3 h4 h6 h7 h8 h9 e
            have e1 : a = -1 + (n : Int) := by omega
            have e2 : b = 0 + (m : Int) := by omega
            have e3 : c = (0 + (k : Int)) / 5 := by omega
            have e4 : d = (0 + (k : Int)) % 5 := by omega
            rw [e1, e2, ← e3, ← e4]
          · right
            exact ⟨h0, by omega⟩
      · obtain ⟨r3, r4, kvs, rfl, rfl, ht⟩ := hi
        walk_at "go"
        refine ⟨_, _, _, kvs, rfl, rfl, ht.1, fun q hq => ht.2.1 q ?_, by have := ht.2.2; have e : (Src.rng 0 (Int.toNat 25)).len = 25 := rfl; omega⟩
        obtain ⟨h0, h⟩ := hq
        have h0' := h0
        obtain ⟨h1, h2, h3, h4, h5, h6, h7, h8, h9⟩ := h0'
        have e : (Src.rng 0 (Int.toNat 25)).len = 25 := rfl
        rw [e]
        exact ⟨h0, by omega⟩
    · obtain ⟨r2, r3, r4, kvs, rfl, rfl, ht⟩ := hi
      walk_at "go"
      have e : (Src.rng 0 (Int.toNat 6)).len = 6 := rfl
      rw [e] at ht
      refine ⟨_, _, _, _, kvs, rfl, rfl, ht.1, fun q hq => ht.2.1 q ?_, by have := ht.2.2; omega⟩
      obtain ⟨h0, h⟩ := hq
      have h0' := h0
      obtain ⟨h1, h2, h3, h4, h5, h6, h7, h8, h9⟩ := h0'
      exact ⟨h0, by omega⟩
  · obtain ⟨r1, r2, r3, r4, kvs, rfl, rfl, ht⟩ := hi
    walk_at "go"
    have e : (Src.rng (-1) (5 - -1).toNat).len = 6 := rfl
    rw [e] at ht
    refine ⟨_, List.Sublist.refl _, q _ _ ⟨ht.1, fun q hq => ht.2.1 q ⟨hq, ?_⟩, by have := ht.2.2; omega⟩⟩
    obtain ⟨h1, h2, h3, h4, h5, h6, h7, h8, h9⟩ := hq
    omega
end
set_option hygiene false in
local macro_rules | `(tactic| walk_at "own") => `(tactic| ((with_reducible show EW _ (.Call (.Name "_law_table" _) _ _ _) _ _ _); refine ew_callN0 ⟨ok_u_law_table t, t.g_u_law_table, t.F_u_law_table.kp, t.B_u_law_table, Nat.le_of_ble_eq_true rfl⟩ rfl ⟨rfl, fun a kvs htb => ?_⟩))
local macro_rules | `(tactic| walk_at "slots") => `(tactic| first | ((with_reducible show EW _ (.Name "value" _) _ _ _); refine ew_var 0 rfl (by walk_at "vis") rfl ?_) | ((with_reducible show EW _ (.Name "word" _) _ _ _); refine ew_var 1 rfl (by walk_at "vis") rfl ?_))
local macro_rules | `(tactic| walk_at "store") => `(tactic| first | ((with_reducible show SW1 _ (.Assign [.Name "value" _] _ _) _ _ _); refine s1_set (hi := ?shi) (hx := ?shx) 0 ?_; (case shi => exact rfl); (case shx => walk_at "loc")) | ((with_reducible show SW1 _ (.Assign [.Name "word" _] _ _) _ _ _); refine s1_set (hi := ?shi) (hx := ?shx) 1 ?_; (case shi => exact rfl); (case shx => walk_at "loc")))
local macro_rules | `(tactic| walk_at "gname") => `(tactic| first | ((with_reducible show GW _ (.Name "value" _) _ _ _ _); refine gw_name 0 rfl (by walk_at "loc") ?_) | ((with_reducible show GW _ (.Name "word" _) _ _ _ _); refine gw_name 1 rfl (by walk_at "loc") ?_))
local macro_rules | `(tactic| walk_at "par") => `(tactic| first | fail)
local macro_rules | `(tactic| walk_at "lc") => `(tactic| first | fail)
def sp_tried : PSpec := fun ds QQ EE => ∃ d, ds = [d] ∧ d.nv = true ∧ (∀ z, d = .str z → z.length ≤ 1000) ∧ (∀ q, okQ q → d = .str (textD q) → QQ (clT q)) ∧ ((∀ q, okQ q → d ≠ .str (textD q)) → QQ (.str "text"))
theorem ok_u_law_tried (t : Txt K mg) (tb : ∀ p ∈ tabs t, LamX.TabB base mg p.1 p.2) : FnOk Pg w K mg base (L2.CX Pg w) 8 t.a_u_law_tried t.fd_u_law_tried ["value"] (toSp K (tabT t) (pureF sp_tried)) := by
  refine fn_pureC t.C_u_law_tried sc_u_law_tried (by decide) (fun ds QQ EE h => by obtain ⟨_, rfl, _⟩ := h; rfl) fun cdv hc A outer s H E ds QQ EE h => ?_
  subst hc
  obtain ⟨d, rfl, nv, hl, q, qe⟩ := h
  refine sw_cons ?_
  walk_at "go"
  walk_at "word"
  walk_at "go"
  refine ⟨_, rfl, nv, hl, fun u hu e => ?_, fun hno => ch_InvalidText t ?_⟩
  · walk_at "go"
    refine ⟨_, rfl, nv, hl, fun u2 hu2 e2 => ?_, fun hno => absurd e (hno u hu)⟩
    rw [e] at e2
    have := text_inj hu hu2 (D.str.inj e2)
    subst this
    walk_at "go"
    exact q u hu e
  · walk_at "go"
    exact qe hno
set_option hygiene false in
local macro_rules | `(tactic| walk_at "own") => `(tactic| ((with_reducible show EW _ (.Call (.Name "_law_tried" _) _ _ _) _ _ _); refine ew_call ⟨ok_u_law_tried t tb, t.g_u_law_tried, t.F_u_law_tried.kp, t.B_u_law_tried, Nat.le_of_ble_eq_true rfl⟩ rfl ?_))
local macro_rules | `(tactic| walk_at "slots") => `(tactic| first | ((with_reducible show EW _ (.Name "cup" _) _ _ _); refine ew_var 0 rfl (by walk_at "vis") rfl ?_) | ((with_reducible show EW _ (.Name "text" _) _ _ _); refine ew_var 1 rfl (by walk_at "vis") rfl ?_) | ((with_reducible show EW _ (.Name "signs" _) _ _ _); refine ew_var 2 rfl (by walk_at "vis") rfl ?_) | ((with_reducible show EW _ (.Name "at" _) _ _ _); refine ew_var 3 rfl (by walk_at "vis") rfl ?_))
local macro_rules | `(tactic| walk_at "store") => `(tactic| first | ((with_reducible show SW1 _ (.Assign [.Name "cup" _] _ _) _ _ _); refine s1_set (hi := ?shi) (hx := ?shx) 0 ?_; (case shi => exact rfl); (case shx => walk_at "loc")) | ((with_reducible show SW1 _ (.Assign [.Name "text" _] _ _) _ _ _); refine s1_set (hi := ?shi) (hx := ?shx) 1 ?_; (case shi => exact rfl); (case shx => walk_at "loc")) | ((with_reducible show SW1 _ (.Assign [.Name "signs" _] _ _) _ _ _); refine s1_set (hi := ?shi) (hx := ?shx) 2 ?_; (case shi => exact rfl); (case shx => walk_at "loc")) | ((with_reducible show SW1 _ (.Assign [.Name "at" _] _ _) _ _ _); refine s1_set (hi := ?shi) (hx := ?shx) 3 ?_; (case shi => exact rfl); (case shx => walk_at "loc")))
local macro_rules | `(tactic| walk_at "gname") => `(tactic| first | ((with_reducible show GW _ (.Name "cup" _) _ _ _ _); refine gw_name 0 rfl (by walk_at "loc") ?_) | ((with_reducible show GW _ (.Name "text" _) _ _ _ _); refine gw_name 1 rfl (by walk_at "loc") ?_) | ((with_reducible show GW _ (.Name "signs" _) _ _ _ _); refine gw_name 2 rfl (by walk_at "loc") ?_) | ((with_reducible show GW _ (.Name "at" _) _ _ _ _); refine gw_name 3 rfl (by walk_at "loc") ?_))
local macro_rules | `(tactic| walk_at "par") => `(tactic| first | fail)
local macro_rules | `(tactic| walk_at "lc") => `(tactic| first | fail)
open TL
theorem cutS_le (a : Str) (lo hi : Option Int) : (cutS a lo hi).length ≤ a.length := cutS_length a lo hi
def sp_bent : MSpec := fun ds a o QQ EE => ∃ z x y, ds = [.v (.ref a), .str z] ∧ z.length ≤ 400 ∧ o = cupD x y ∧ ∀ (z' : Str) x' y', z'.length ≤ 2 * z.length + 9 → QQ (.str z') (cupD x' y')
theorem ok_u_law_bent (t : Txt K mg) : FnOk Pg w K mg base (L2.CX Pg w) 3 t.a_u_law_bent t.fd_u_law_bent ["cup", "text"] (toSp K T (mutF sp_bent)) := by
  refine fn_mut t.F_u_law_bent sc_u_law_bent (by decide) (fun ds a o QQ EE h => by obtain ⟨_, _, _, rfl, _⟩ := h; rfl) fun cdv A outer s0 H E ds a o QQ EE h => ?_
  obtain ⟨z, x, y, rfl, hl, rfl, q⟩ := h
  have sl : sizeLine = 16777216 := sizeLine_eq
  refine sw_cons ?_
  have hc := fun lo hi => cutS_le z lo hi
  walk_at "go"
  rename_i r _ _ r0 r1 d _ _ hd
  obtain ⟨sg, rfl, hsg⟩ : ∃ sg, d = .str sg ∧ sg.length ≤ 9 := by
    simp only [List.mem_cons, List.not_mem_nil, or_false] at hd
    rcases hd with rfl | rfl | rfl | rfl | rfl | rfl | rfl | rfl | rfl | rfl | rfl | rfl | rfl | rfl | rfl | rfl <;> exact ⟨_, rfl, by decide +kernel⟩
  have c1 := hc none (some r)
  with_reducible show BO _ _ _ _ _ _ _
  refine bo_addS (by omega) ?_
  walk_at "go"
  rename_i r2 _ _ _ _
  have c2 := hc (some (r + r2)) none
  refine bo_addS (by rw [str_len]; omega) ?_
  exact ⟨_, rfl, q _ _ _ (by rw [str_len, str_len]; omega)⟩
set_option hygiene false in
local macro_rules | `(tactic| walk_at "own") => `(tactic| ((with_reducible show EW _ (.Call (.Name "_law_bent" _) _ _ _) _ _ _); refine ew_callM 0 ⟨ok_u_law_bent t, t.g_u_law_bent, t.F_u_law_bent.kp, t.B_u_law_bent, Nat.le_of_ble_eq_true rfl⟩ rfl ?_))

open TL
def wIx (w : List Nat) : Option Nat := if w = [103, 97, 112] then some 0 else if w = [115, 112, 97, 110] then some 1 else if w = [115, 104, 97, 114, 101] then some 2 else if w = [99, 101, 105, 108, 105, 110, 103] then some 3 else none
def rdP (f : Option (List Int)) (p : List Nat) : Option (List Int) := match f, spl [32] 0 [] p with
  | some f, [w, [d]] => match wIx w with
    | some i => some (f.set i ((d : Int) - 48))
    | none => none
  | _, _ => none
def rdL (l : List Nat) : Option Cl := match (spl [44, 32] 0 [] l).foldl rdP (some [-1, 0, 0, 0]) with
  | some [a, b, c, d] => some (a, b, c, d)
  | _ => none
theorem part_tl (x : Nat × Str × Int × Int) : tl (partS x) = tl x.2.1 ++ ([32] ++ tl (numS x.2.2.1)) := by
  unfold partS
  rw [tl_append, tl_append, show tl (" " : Str) = [32] by decide +kernel, List.append_assoc]
theorem rd_part {q : Cl} (h : okQ q) {x : Nat × Str × Int × Int} (hx : x ∈ pl q) (f : List Int) : rdP (some f) (tl (partS x)) = some (setV f x) := by
  obtain ⟨h1, h2, h3⟩ := pl_mem h hx
  have p1 := pl_pos hx
  have e : spl [32] 0 [] (tl (partS x)) = [tl x.2.1, [48 + x.2.2.1.toNat]] := by
    rw [part_tl, numS_tl h1 (by omega)]
    exact spl_join (s := 32) (S := []) (parts := [tl x.2.1, [48 + x.2.2.1.toNat]]) (by simp) (by
      intro p hp
      simp only [List.mem_cons, List.not_mem_nil, or_false] at hp
      rcases hp with rfl | rfl
      · exact (word_tl h3).2
      · simp; omega)
  unfold rdP
  rw [e]
  have ev : (((48 + x.2.2.1.toNat : Nat) : Int) - 48) = x.2.2.1 := by omega
  simp only [ev]
  unfold setV
  rcases p1 with ⟨a1, a2⟩ | ⟨a1, a2⟩ | ⟨a1, a2⟩ | ⟨a1, a2⟩
  · rw [a1, a2, show wIx (tl ("gap" : Str)) = some 0 by decide +kernel]
  · rw [a1, a2, show wIx (tl ("span" : Str)) = some 1 by decide +kernel]
  · rw [a1, a2, show wIx (tl ("share" : Str)) = some 2 by decide +kernel]
  · rw [a1, a2, show wIx (tl ("ceiling" : Str)) = some 3 by decide +kernel]
theorem text_tl (q : Cl) : tl (textD q) = joinL [44, 32] ((partsOf q).map tl) := by
  unfold textD
  rw [join_eq, tl_join, show tl (", " : Str) = [44, 32] by decide +kernel]
theorem rd_text {q : Cl} (h : okQ q) : rdL (tl (textD q)) = some q := by
  have e : spl [44, 32] 0 [] (tl (textD q)) = (partsOf q).map tl := by
    rw [text_tl]
    refine spl_join (fun e => pl_ne h (List.map_eq_nil_iff.mp (List.map_eq_nil_iff.mp e))) fun p hp => ?_
    obtain ⟨z, hz, rfl⟩ := List.mem_map.mp hp
    obtain ⟨x, hx, rfl⟩ := List.mem_map.mp hz
    obtain ⟨h1, h2, h3⟩ := pl_mem h hx
    rw [part_tl, numS_tl h1 (by omega)]
    have := (word_tl h3).1
    simp
    exact ⟨by simpa using this, by omega⟩
  have key : ∀ (xs : List (Nat × Str × Int × Int)) (f : List Int), (∀ x ∈ xs, x ∈ pl q) → ((xs.map partS).map tl).foldl rdP (some f) = some (xs.foldl setV f) := fun xs => by
    induction xs with
    | nil => exact fun _ _ => rfl
    | cons x xs ih =>
      intro f hx
      rw [List.map_cons, List.map_cons, List.foldl_cons, rd_part h (hx x (by simp)), ih _ fun y hy => hx y (by simp [hy])]
      rfl
  have f1 := fill_all q
  unfold fill at f1
  rw [List.take_length] at f1
  unfold rdL
  rw [e]
  unfold partsOf
  rw [key (pl q) _ fun _ h => h, f1]
instance (q : Cl) : Decidable (okQ q) := by unfold okQ; infer_instance
def badS (z : Str) : Bool := match rdL (tl z) with
  | some q => !(decide (okQ q) && decide (joinL [44, 32] ((partsOf q).map tl) = tl z))
  | none => true
theorem bad_no {z : Str} (h : badS z = true) : ∀ q, okQ q → z ≠ textD q := fun q hq e => by
  subst e
  unfold badS at h
  rw [rd_text hq] at h
  simp only at h
  rw [text_tl] at h
  simp at h
  exact h hq

local macro_rules | `(tactic| walk_at "slots") => `(tactic| first | ((with_reducible show EW _ (.Name "script" _) _ _ _); refine ew_var 0 rfl (by walk_at "vis") rfl ?_) | ((with_reducible show EW _ (.Name "table" _) _ _ _); refine ew_var 1 rfl (by walk_at "vis") rfl ?_) | ((with_reducible show EW _ (.Name "k" _) _ _ _); refine ew_var 2 rfl (by walk_at "vis") rfl ?_) | ((with_reducible show EW _ (.Name "cup" _) _ _ _); refine ew_var 3 rfl (by walk_at "vis") rfl ?_) | ((with_reducible show EW _ (.Name "turn" _) _ _ _); refine ew_var 4 rfl (by walk_at "vis") rfl ?_) | ((with_reducible show EW _ (.Name "text" _) _ _ _); refine ew_var 5 rfl (by walk_at "vis") rfl ?_) | ((with_reducible show EW _ (.Name "again" _) _ _ _); refine ew_var 6 rfl (by walk_at "vis") rfl ?_) | ((with_reducible show EW _ (.Name "odd" _) _ _ _); refine ew_var 7 rfl (by walk_at "vis") rfl ?_) | ((with_reducible show EW _ (.Name "rows" _) _ _ _); refine ew_var 8 rfl (by walk_at "vis") rfl ?_) | ((with_reducible show EW _ (.Name "row" _) _ _ _); refine ew_var 9 rfl (by walk_at "vis") rfl ?_))
local macro_rules | `(tactic| walk_at "store") => `(tactic| first | ((with_reducible show SW1 _ (.Assign [.Name "script" _] _ _) _ _ _); refine s1_set (hi := ?shi) (hx := ?shx) 0 ?_; (case shi => exact rfl); (case shx => walk_at "loc")) | ((with_reducible show SW1 _ (.Assign [.Name "table" _] _ _) _ _ _); refine s1_set (hi := ?shi) (hx := ?shx) 1 ?_; (case shi => exact rfl); (case shx => walk_at "loc")) | ((with_reducible show SW1 _ (.Assign [.Name "k" _] _ _) _ _ _); refine s1_set (hi := ?shi) (hx := ?shx) 2 ?_; (case shi => exact rfl); (case shx => walk_at "loc")) | ((with_reducible show SW1 _ (.Assign [.Name "cup" _] _ _) _ _ _); refine s1_set (hi := ?shi) (hx := ?shx) 3 ?_; (case shi => exact rfl); (case shx => walk_at "loc")) | ((with_reducible show SW1 _ (.Assign [.Name "turn" _] _ _) _ _ _); refine s1_set (hi := ?shi) (hx := ?shx) 4 ?_; (case shi => exact rfl); (case shx => walk_at "loc")) | ((with_reducible show SW1 _ (.Assign [.Name "text" _] _ _) _ _ _); refine s1_set (hi := ?shi) (hx := ?shx) 5 ?_; (case shi => exact rfl); (case shx => walk_at "loc")) | ((with_reducible show SW1 _ (.Assign [.Name "again" _] _ _) _ _ _); refine s1_set (hi := ?shi) (hx := ?shx) 6 ?_; (case shi => exact rfl); (case shx => walk_at "loc")) | ((with_reducible show SW1 _ (.Assign [.Name "odd" _] _ _) _ _ _); refine s1_set (hi := ?shi) (hx := ?shx) 7 ?_; (case shi => exact rfl); (case shx => walk_at "loc")) | ((with_reducible show SW1 _ (.Assign [.Name "rows" _] _ _) _ _ _); refine s1_set (hi := ?shi) (hx := ?shx) 8 ?_; (case shi => exact rfl); (case shx => walk_at "loc")) | ((with_reducible show SW1 _ (.Assign [.Name "row" _] _ _) _ _ _); refine s1_set (hi := ?shi) (hx := ?shx) 9 ?_; (case shi => exact rfl); (case shx => walk_at "loc")))
local macro_rules | `(tactic| walk_at "gname") => `(tactic| first | ((with_reducible show GW _ (.Name "script" _) _ _ _ _); refine gw_name 0 rfl (by walk_at "loc") ?_) | ((with_reducible show GW _ (.Name "table" _) _ _ _ _); refine gw_name 1 rfl (by walk_at "loc") ?_) | ((with_reducible show GW _ (.Name "k" _) _ _ _ _); refine gw_name 2 rfl (by walk_at "loc") ?_) | ((with_reducible show GW _ (.Name "cup" _) _ _ _ _); refine gw_name 3 rfl (by walk_at "loc") ?_) | ((with_reducible show GW _ (.Name "turn" _) _ _ _ _); refine gw_name 4 rfl (by walk_at "loc") ?_) | ((with_reducible show GW _ (.Name "text" _) _ _ _ _); refine gw_name 5 rfl (by walk_at "loc") ?_) | ((with_reducible show GW _ (.Name "again" _) _ _ _ _); refine gw_name 6 rfl (by walk_at "loc") ?_) | ((with_reducible show GW _ (.Name "odd" _) _ _ _ _); refine gw_name 7 rfl (by walk_at "loc") ?_) | ((with_reducible show GW _ (.Name "rows" _) _ _ _ _); refine gw_name 8 rfl (by walk_at "loc") ?_) | ((with_reducible show GW _ (.Name "row" _) _ _ _ _); refine gw_name 9 rfl (by walk_at "loc") ?_))
local macro_rules | `(tactic| walk_at "par") => `(tactic| first | fail)
local macro_rules | `(tactic| walk_at "lc") => `(tactic| first | ((with_reducible show EW _ (.ListComp _ [⟨.Name "text" _, _, _, _⟩] _ _) _ _ _); walk_at "lcI?"; refine ew_lcI 5 (own := [("text", 5)]) ?lcA ?lcB ?lcC ?_; (case lcA => first | exact blkOk_by (N := ["script", "table", "k", "cup", "turn", "text", "again", "odd", "rows", "row"]) (sc := defScope s_law) (by decide +kernel) | exact blkOk_by rfl); (case lcB => rfl); (case lcC => exact fun nd _ _ _ _ _ => pg_name (i := 5) nd rfl (by first | exact Or.inl rfl | exact Or.inr rfl) (by first | exact Or.inl rfl | exact Or.inr rfl))) | ((with_reducible show EW _ (.ListComp _ [⟨.Name "text" _, _, _, _⟩] _ _) _ _ _); refine ew_lc 5 (own := [("text", 5)]) ?lcA ?lcB ?lcC ?_; (case lcA => first | exact blkOk_by (N := ["script", "table", "k", "cup", "turn", "text", "again", "odd", "rows", "row"]) (sc := defScope s_law) (by decide +kernel) | exact blkOk_by rfl); (case lcB => rfl); (case lcC => exact fun nd _ _ _ _ _ => pg_name (i := 5) nd rfl (by first | exact Or.inl rfl | exact Or.inr rfl) (by first | exact Or.inl rfl | exact Or.inr rfl))) | ((with_reducible show EW _ (.ListComp _ [⟨.Name "row" _, _, _, _⟩] _ _) _ _ _); walk_at "lcI?"; refine ew_lcI 9 (own := [("row", 9)]) ?lcA ?lcB ?lcC ?_; (case lcA => first | exact blkOk_by (N := ["script", "table", "k", "cup", "turn", "text", "again", "odd", "rows", "row"]) (sc := defScope s_law) (by decide +kernel) | exact blkOk_by rfl); (case lcB => rfl); (case lcC => exact fun nd _ _ _ _ _ => pg_name (i := 9) nd rfl (by first | exact Or.inl rfl | exact Or.inr rfl) (by first | exact Or.inl rfl | exact Or.inr rfl))) | ((with_reducible show EW _ (.ListComp _ [⟨.Name "row" _, _, _, _⟩] _ _) _ _ _); refine ew_lc 9 (own := [("row", 9)]) ?lcA ?lcB ?lcC ?_; (case lcA => first | exact blkOk_by (N := ["script", "table", "k", "cup", "turn", "text", "again", "odd", "rows", "row"]) (sc := defScope s_law) (by decide +kernel) | exact blkOk_by rfl); (case lcB => rfl); (case lcC => exact fun nd _ _ _ _ _ => pg_name (i := 9) nd rfl (by first | exact Or.inl rfl | exact Or.inr rfl) (by first | exact Or.inl rfl | exact Or.inr rfl))) | fail)
open TL
def sp_law : PSpec := fun ds QQ EE => ∃ ns, ds = [.lk ns] ∧ ns.length ≤ 63 ∧ QQ (.bl true)
theorem rule_ok {g s p c : Int} (h : clOk g s p c) : okQ (g, s, p, c) := h
theorem text_len {q : Cl} (h : okQ q) : (textD q).length ≤ 50 := by
  have key : ∀ ls : List (List Nat), (joinL [44, 32] ls).length ≤ (ls.map List.length).sum + 2 * ls.length := fun ls => by
    induction ls with
    | nil => simp [joinL]
    | cons a r ih =>
      cases r with
      | nil => simp [joinL]
      | cons b r =>
        rw [joinL]
        simp only [List.length_append, List.map_cons, List.sum_cons, List.length_cons, List.length_nil] at ih ⊢
        omega
  have k2 : ∀ xs : List (Nat × Str × Int × Int), (∀ x ∈ xs, (partS x).length ≤ 9) → (((xs.map partS).map TL.tl).map List.length).sum ≤ 9 * xs.length := fun xs => by
    induction xs with
    | nil => intro _; simp
    | cons x xs ih =>
      intro hh
      have a := hh x (by simp)
      have b := ih fun y hy => hh y (by simp [hy])
      rw [TL.len_tl] at a
      simp only [List.map_cons, List.sum_cons, List.length_cons]
      omega
  have a := key ((partsOf q).map TL.tl)
  have b := k2 (pl q) fun x hx => partS_len h hx
  have c := pl_len q
  rw [TL.len_tl, text_tl]
  have d : ((partsOf q).map TL.tl).length = (pl q).length := by unfold partsOf; rw [List.length_map, List.length_map]
  rw [d] at a
  unfold partsOf at a
  unfold partsOf
  omega
theorem shp_cl (q : Cl) : D.shp 60 (clT q) = true := by simp [D.shp, D.shps]
section
set_option hygiene false in
local macro_rules | `(tactic| walk_at "e") => `(tactic| first
  | ((with_reducible show EW _ (.Subscript (.Name "table" _) _ _) _ _ _); refine ew_dgetF (fun _ _ => rfl) ?_)
  | ((with_reducible show EW _ (.Call (.Attribute (.Name "table" _) "get" _) _ _ _) _ _ _); refine ew_get2F ?_))
theorem ok_law (t : Txt K mg) (tb : ∀ p ∈ tabs t, LamX.TabB base mg p.1 p.2) : FnOk Pg w K mg base (L2.CX Pg w) 9 t.a_law t.fd_law ["script"] (toSp K (tabT t) (pureF sp_law)) := by
  refine fn_pure t.F_law sc_law (by decide) (fun ds QQ EE h => by obtain ⟨_, rfl, _⟩ := h; rfl) fun cdv A outer s H E ds QQ EE h => ?_
  obtain ⟨ns, rfl, hl, q⟩ := h
  refine sw_cons (s1_set (hi := ?hi) (hx := ?hx) 1 ?_)
  case hi => exact rfl
  case hx => walk_at "loc"
  walk_at "own"
  with_reducible show SW _ _ _ _ _
  refine sw_lock (p := a) (kvs := kvs) (hc := ?hc) (hi := ?hi) (hm := ?hm) 0 1 ?_
  case hc => exact (rfl : ([⟨a, false, .dK kvs⟩] : List Cel)[0]? = some ⟨a, false, .dK kvs⟩)
  case hi => rfl
  case hm => rfl
  refine sw_cons ?_
  walk_at "go"
  refine iw_keysF ?_
  walk_at "go"
  refine ⟨_, rfl, ?_⟩
  have hkl := htb.2.2
  refine ⟨by walk_at "sz", fun _ => false, fun d => d, fun n d hd => ?_, ?_⟩
  · obtain ⟨pr, hp, rfl⟩ := seq_map hd
    obtain ⟨u, hu, rfl⟩ := htb.1 pr (List.mem_of_getElem? hp)
    refine ⟨True.intro, ?_, fun h => nomatch h⟩
    rw [show keyD (Sum.inr (textD u), clT u).1 = .str (textD u) from rfl]
    have hul := text_len hu
    walk_at "tt"
    refine ⟨kvs, rfl, ?_⟩
    walk_at "go"
    refine ⟨.inr (textD u), clT u, rfl, htb.2.1 u hu, ?_⟩
    walk_at "go"
    refine ⟨u, hu, rfl, ?_⟩
    walk_at "go"
    rotate_left 1
    · rename_i h; exact absurd rfl h
    refine ⟨_, rfl, rfl, fun z e => by rw [← D.str.inj e]; omega, fun u2 hu2 e => ?_, fun hno => absurd rfl (hno u hu)⟩
    have := text_inj hu hu2 (D.str.inj e)
    subst this
    walk_at "go"
    refine ⟨kvs, rfl, ?_⟩
    walk_at "go"
    refine ⟨.inr (textD u), clT u, rfl, htb.2.1 u hu, ?_⟩
    refine bo_neD .self .self (shp_cl u) (shp_cl u) ?_
    rw [eqv_refl (shp_cl u)]
    walk_at "go"
    exact ⟨rfl, rfl⟩
  · have e : ((Src.seq (kvs.map fun p => keyD p.1)).items.filter fun _ => false).map (fun d => d) = [] := by simp
    rw [e]
    walk_at "go"
    refine s1_for (iw_range1 t.b_range rfl ?_)
    walk_at "go"
    refine ⟨by omega, by omega, fun n ρ ω => ω.filter Cel.m = [] ∧ ∃ r2 r3 r4 r5 r6 r7 r8 r9, ρ = [some (.lk ns), some (dctD K kvs), r2, r3, r4, r5, r6, r7, r8, r9], ⟨rfl, _, _, _, _, _, _, _, _, rfl⟩, fun n d ρ ω hd hi => ?_, fun ρ ω hi => ?_⟩
    · obtain ⟨hm, r2, r3, r4, r5, r6, r7, r8, r9, rfl⟩ := hi
      obtain ⟨hn, rfl⟩ := rng_at hd
      walk_at "gname"
      refine sw_forget (ω' := []) (List.nil_sublist _) hm.symm ?_
      walk_at "go"
      rename_i x y a2
      refine s1_for (iw_range1 t.b_range rfl ?_)
      walk_at "go"
      refine ⟨by decide, by decide, fun n ρ ω => ω.filter Cel.m = [] ∧ ∃ x y ω' r2 r4 r5 r6 r7 r8 r9, ω = ⟨a2, false, cupD x y⟩ :: ω' ∧ ρ = [some (.lk ns), some (dctD K kvs), r2, some (.v (.ref a2)), r4, r5, r6, r7, r8, r9] ∧ (0 < n → ∃ z : Str, r5 = some (.str z) ∧ z.length ≤ 300),
        ⟨rfl, _, _, _, _, _, _, _, _, _, _, rfl, rfl, fun h => absurd h (Nat.lt_irrefl 0)⟩, fun n0 d ρ ω hd hi => ?_, fun ρ ω hi => ?_⟩
      · obtain ⟨hm2, x, y, ω', r2, r4, r5, r6, r7, r8, r9, rfl, rfl, _⟩ := hi
        obtain ⟨hn, rfl⟩ := rng_at hd
        walk_at "gname"
        refine sw_forget (ω' := [⟨a2, false, cupD x y⟩]) (by simp) (by rw [hm2]; rfl) ?_
        walk_at "go"
        rename_i g s p c _ _ hcl
        have hq := rule_ok hcl
        refine ⟨(g, s, p, c), hq, rfl, ?_⟩
        have htl := text_len hq
        generalize textD (g, s, p, c) = z0 at htl ⊢
        walk_at "go"
        refine s1_for (iw_range1 t.b_range rfl ?_)
        walk_at "go"
        refine ⟨by decide, by decide, fun m ρ ω => ∃ x y r6 r7 r8 r9, ∃ z : Str, ω = [⟨a2, false, cupD x y⟩] ∧ ρ = [some (.lk ns), some (dctD K kvs), r2, some (.v (.ref a2)), some (.int (0 + n0)), some (.str z), r6, r7, r8, r9] ∧ z.length + 9 ≤ (59 + (if 0 < m then 59 else 0) + (if 1 < m then 118 else 0)),
          ⟨_, _, _, _, _, _, z0, rfl, rfl, by simp; omega⟩, fun m d ρ ω hd hi => ?_, fun ρ ω hi => ?_⟩
        · obtain ⟨x, y, r6, r7, r8, r9, z, rfl, rfl, hz⟩ := hi
          obtain ⟨hm9, rfl⟩ := rng_at hd
          have hm9 : m < 2 := hm9
          have hz3 : z.length ≤ 109 := by
            rcases m with _ | _ | m
            · simp at hz; omega
            · simp at hz; omega
            · omega
          have hzn : ∀ z' : Str, z'.length ≤ 2 * z.length + 9 → z'.length + 9 ≤ (59 + (if 0 < m + 1 then 59 else 0) + (if 1 < m + 1 then 118 else 0)) := fun z' h => by
            rcases m with _ | _ | m
            · simp at hz ⊢; omega
            · simp at hz ⊢; omega
            · omega
          walk_at "go"
          refine ⟨z, _, _, rfl, by omega, rfl, fun z' _ _ hz' => ?_⟩
          walk_at "go"
          refine ⟨_, rfl, rfl, fun w e => by rw [← D.str.inj e]; omega, fun u hu e => ?_, fun hno => ?_⟩
          · obtain rfl := D.str.inj e
            walk_at "go"
            refine ⟨kvs, rfl, ?_⟩
            walk_at "go"
            refine ⟨.inr (textD u), rfl, ?_⟩
            rw [htb.2.1 u hu]
            show BO _ _ _ (clT u) (clT u) _ _
            refine bo_neD .self .self (shp_cl u) (shp_cl u) ⟨_, rfl, ifN (by rw [eqv_refl (shp_cl u)]; rfl) ?_⟩
            walk_at "go"
            exact ⟨_, _, _, _, _, _, _, rfl, rfl, hzn _ hz'⟩
          · walk_at "go"
            refine ⟨kvs, rfl, ?_⟩
            walk_at "go"
            refine ⟨.inr z', rfl, ?_⟩
            rw [tbl_none htb fun q hq e => hno q hq (congrArg D.str e)]
            show BO _ _ _ (.str "text") (.str "text") _ _
            walk_at "go"
            exact ⟨_, _, _, _, _, _, _, rfl, rfl, hzn _ hz'⟩
        · obtain ⟨x, y, r6, r7, r8, r9, z, rfl, rfl, hz⟩ := hi
          have hz3 : z.length ≤ 300 := by
            have e : (Src.rng 0 (Int.toNat 2)).len = 2 := rfl
            rw [e] at hz
            simp at hz; omega
          walk_at "go"
          exact ⟨rfl, _, _, _, _, _, _, _, _, _, _, rfl, rfl, fun _ => ⟨z, rfl, hz3⟩⟩
      · obtain ⟨hm2, x, y, ω', r2, r4, r5, r6, r7, r8, r9, rfl, rfl, hr⟩ := hi
        obtain ⟨z, rfl, hz⟩ := hr (by decide)
        refine sw_forget (ω' := []) (List.nil_sublist _) hm2.symm ?_
        walk_at "go"
        refine s1_for (iw_list ?_)
        walk_at "go"
        refine ⟨fun n ρ ω => ω.filter Cel.m = [] ∧ ∃ r2 r3 r4 r6 r7 r8 r9, ρ = [some (.lk ns), some (dctD K kvs), r2, r3, r4, some (.str z), r6, r7, r8, r9], ⟨rfl, _, _, _, _, _, _, _, rfl⟩, fun n d ρ ω hd hi => ?_, fun ρ ω hi => ?_⟩
        · obtain ⟨hm3, r2, r3, r4, r6, r7, r8, r9, rfl⟩ := hi
          have hd1 : d.nv = true ∧ ∀ z, d ≠ .str z := by
            have z := seq_mem hd
            simp only [List.mem_cons, List.not_mem_nil, or_false] at z
            rcases z with rfl | rfl | rfl | rfl | rfl | rfl <;> exact ⟨rfl, fun _ h => nomatch h⟩
          walk_at "go"
          refine ⟨_, rfl, hd1.1, fun w e => absurd e (hd1.2 w), fun u hu e => absurd e (hd1.2 _), fun hno => ?_⟩
          walk_at "go"
          exact ⟨hm3, _, _, _, _, _, _, _, rfl⟩
        · obtain ⟨hm3, r2, r3, r4, r6, r7, r8, r9, rfl⟩ := hi
          walk_at "go"
          exact ⟨hm3, _, _, _, _, _, _, _, _, rfl⟩
    · obtain ⟨hm, r2, r3, r4, r5, r6, r7, r8, r9, rfl⟩ := hi
      with_reducible show SW _ _ _ _ _
      refine sw_forget (ω' := []) (List.nil_sublist _) hm.symm ?_
      walk_at "go"
      refine iw_list ?_
      walk_at "go"
      refine ⟨by walk_at "sz", fun _ => false, fun d => d, fun n d hd => ?_, ?_⟩
      · obtain ⟨z, rfl, hz1, hz2⟩ : ∃ z, d = .str z ∧ z.length ≤ 1000 ∧ badS z = true := by
          have hd := seq_mem hd
          simp only [List.mem_append, List.mem_cons, List.not_mem_nil, or_false] at hd
          repeat' (rcases hd with hd | hd)
          all_goals exact ⟨_, rfl, by decide +kernel, by decide +kernel⟩
        refine ⟨True.intro, ?_, fun h => nomatch h⟩
        have hno := bad_no hz2
        walk_at "tt"
        refine ⟨_, rfl, rfl, fun w e => by rw [← D.str.inj e]; exact hz1, fun u hu e => absurd (D.str.inj e) (hno u hu), fun _ => ?_⟩
        walk_at "go"
        exact ⟨rfl, rfl⟩
      · have e : ∀ xs : List D, (xs.filter fun _ => false).map (fun d => d) = [] := fun xs => by simp
        rw [e]
        walk_at "go"
        refine ⟨(0, 5, 0, 0), by decide, rfl, ?_⟩
        rw [show textD (0, 5, 0, 0) = ("gap 0, span 5" : Str) from ext_tl (by rw [text_tl]; decide +kernel)]
        walk_at "go"
        have he : ("span 2, share 2" : Str) = textD (-1, 2, 2, 0) := ext_tl (by rw [text_tl]; decide +kernel)
        have hok : okQ (-1, 2, 2, 0) := by decide
        refine ⟨_, rfl, rfl, fun w e => by rw [← D.str.inj e]; decide +kernel, fun u hu e => ?_, fun hno => absurd (congrArg D.str he) (hno _ hok)⟩
        have := text_inj hok hu (he.symm.trans (D.str.inj e))
        subst this
        walk_at "go"
        exact ⟨rfl, rt_bl q (by decide +kernel)⟩
end


end
theorem all_mk {l : PySem.W.OpenLaw} {w : World} {K : PySem.W.Frag} {h : Heap} {mg : Str → Option Value} {fa : Addr} {q : Program} (X : K.In h) (G : h.Ns mainGlobals mg) (hfa : mg "law" = some (.ref fa)) (own : Owns q K mg h)
    {f_is_int : Addr} {od_is_int an_is_int : Option Addr} {sl_is_int : Array (Option Value)} {oc_is_int kV_is_int dc_is_int pm_is_int cd_is_int ct_is_int : Value}
        (a_is_int : PySem.W.nsIn K mainGlobals "is_int" = some (some (.ref f_is_int))) (l_is_int : K.lookup f_is_int = some ⟨oc_is_int, od_is_int, .func (PySem.W.fnOf "is_int" "is_int" (defArgs s_is_int) (defBody s_is_int) (defScope s_is_int) .none kV_is_int dc_is_int pm_is_int an_is_int cd_is_int ct_is_int), sl_is_int⟩) (c_is_int : PySem.W.codeIn K cd_is_int "is_int" = true) (k_is_int : PySem.W.keepIn K (.ref f_is_int) = true)
    {f_fits : Addr} {od_fits an_fits : Option Addr} {sl_fits : Array (Option Value)} {oc_fits kV_fits dc_fits pm_fits cd_fits ct_fits : Value}
        (a_fits : PySem.W.nsIn K mainGlobals "fits" = some (some (.ref f_fits))) (l_fits : K.lookup f_fits = some ⟨oc_fits, od_fits, .func (PySem.W.fnOf "fits" "fits" (defArgs s_fits) (defBody s_fits) (defScope s_fits) .none kV_fits dc_fits pm_fits an_fits cd_fits ct_fits), sl_fits⟩) (c_fits : PySem.W.codeIn K cd_fits "fits" = true) (k_fits : PySem.W.keepIn K (.ref f_fits) = true)
    {f_need_clause : Addr} {od_need_clause an_need_clause : Option Addr} {sl_need_clause : Array (Option Value)} {oc_need_clause kV_need_clause dc_need_clause pm_need_clause cd_need_clause ct_need_clause : Value}
        (a_need_clause : PySem.W.nsIn K mainGlobals "need_clause" = some (some (.ref f_need_clause))) (l_need_clause : K.lookup f_need_clause = some ⟨oc_need_clause, od_need_clause, .func (PySem.W.fnOf "need_clause" "need_clause" (defArgs s_need_clause) (defBody s_need_clause) (defScope s_need_clause) .none kV_need_clause dc_need_clause pm_need_clause an_need_clause cd_need_clause ct_need_clause), sl_need_clause⟩) (c_need_clause : PySem.W.codeIn K cd_need_clause "need_clause" = true) (k_need_clause : PySem.W.keepIn K (.ref f_need_clause) = true)
    {f_text_of : Addr} {od_text_of an_text_of : Option Addr} {sl_text_of : Array (Option Value)} {oc_text_of kV_text_of dc_text_of pm_text_of cd_text_of ct_text_of : Value}
        (a_text_of : PySem.W.nsIn K mainGlobals "text_of" = some (some (.ref f_text_of))) (l_text_of : K.lookup f_text_of = some ⟨oc_text_of, od_text_of, .func (PySem.W.fnOf "text_of" "text_of" (defArgs s_text_of) (defBody s_text_of) (defScope s_text_of) .none kV_text_of dc_text_of pm_text_of an_text_of cd_text_of ct_text_of), sl_text_of⟩) (c_text_of : PySem.W.codeIn K cd_text_of "text_of" = true) (k_text_of : PySem.W.keepIn K (.ref f_text_of) = true)
    {f_clause_in : Addr} {od_clause_in an_clause_in : Option Addr} {sl_clause_in : Array (Option Value)} {oc_clause_in kV_clause_in dc_clause_in pm_clause_in cd_clause_in ct_clause_in : Value}
        (a_clause_in : PySem.W.nsIn K mainGlobals "clause_in" = some (some (.ref f_clause_in))) (l_clause_in : K.lookup f_clause_in = some ⟨oc_clause_in, od_clause_in, .func (PySem.W.fnOf "clause_in" "clause_in" (defArgs s_clause_in) (defBody s_clause_in) (defScope s_clause_in) .none kV_clause_in dc_clause_in pm_clause_in an_clause_in cd_clause_in ct_clause_in), sl_clause_in⟩) (c_clause_in : PySem.W.codeIn K cd_clause_in "clause_in" = true) (k_clause_in : PySem.W.keepIn K (.ref f_clause_in) = true)
    {f_clause_text : Addr} {od_clause_text an_clause_text : Option Addr} {sl_clause_text : Array (Option Value)} {oc_clause_text kV_clause_text dc_clause_text pm_clause_text cd_clause_text ct_clause_text : Value}
        (a_clause_text : PySem.W.nsIn K mainGlobals "clause_text" = some (some (.ref f_clause_text))) (l_clause_text : K.lookup f_clause_text = some ⟨oc_clause_text, od_clause_text, .func (PySem.W.fnOf "clause_text" "clause_text" (defArgs s_clause_text) (defBody s_clause_text) (defScope s_clause_text) .none kV_clause_text dc_clause_text pm_clause_text an_clause_text cd_clause_text ct_clause_text), sl_clause_text⟩) (c_clause_text : PySem.W.codeIn K cd_clause_text "clause_text" = true) (k_clause_text : PySem.W.keepIn K (.ref f_clause_text) = true)
    {f_read_clause : Addr} {od_read_clause an_read_clause : Option Addr} {sl_read_clause : Array (Option Value)} {oc_read_clause kV_read_clause dc_read_clause pm_read_clause cd_read_clause ct_read_clause : Value}
        (a_read_clause : PySem.W.nsIn K mainGlobals "read_clause" = some (some (.ref f_read_clause))) (l_read_clause : K.lookup f_read_clause = some ⟨oc_read_clause, od_read_clause, .func (PySem.W.fnOf "read_clause" "read_clause" (defArgs s_read_clause) (defBody s_read_clause) (defScope s_read_clause) .none kV_read_clause dc_read_clause pm_read_clause an_read_clause cd_read_clause ct_read_clause), sl_read_clause⟩) (c_read_clause : PySem.W.codeIn K cd_read_clause "read_clause" = true) (k_read_clause : PySem.W.keepIn K (.ref f_read_clause) = true)
    {f_u_law_cup_of : Addr} {od_u_law_cup_of an_u_law_cup_of : Option Addr} {sl_u_law_cup_of : Array (Option Value)} {oc_u_law_cup_of kV_u_law_cup_of dc_u_law_cup_of pm_u_law_cup_of cd_u_law_cup_of ct_u_law_cup_of : Value}
        (a_u_law_cup_of : PySem.W.nsIn K mainGlobals "_law_cup_of" = some (some (.ref f_u_law_cup_of))) (l_u_law_cup_of : K.lookup f_u_law_cup_of = some ⟨oc_u_law_cup_of, od_u_law_cup_of, .func (PySem.W.fnOf "_law_cup_of" "_law_cup_of" (defArgs s_u_law_cup_of) (defBody s_u_law_cup_of) (defScope s_u_law_cup_of) .none kV_u_law_cup_of dc_u_law_cup_of pm_u_law_cup_of an_u_law_cup_of cd_u_law_cup_of ct_u_law_cup_of), sl_u_law_cup_of⟩) (c_u_law_cup_of : PySem.W.codeIn K cd_u_law_cup_of "_law_cup_of" = true) (k_u_law_cup_of : PySem.W.keepIn K (.ref f_u_law_cup_of) = true)
    {f_u_law_drip : Addr} {od_u_law_drip an_u_law_drip : Option Addr} {sl_u_law_drip : Array (Option Value)} {oc_u_law_drip kV_u_law_drip dc_u_law_drip pm_u_law_drip cd_u_law_drip ct_u_law_drip : Value}
        (a_u_law_drip : PySem.W.nsIn K mainGlobals "_law_drip" = some (some (.ref f_u_law_drip))) (l_u_law_drip : K.lookup f_u_law_drip = some ⟨oc_u_law_drip, od_u_law_drip, .func (PySem.W.fnOf "_law_drip" "_law_drip" (defArgs s_u_law_drip) (defBody s_u_law_drip) (defScope s_u_law_drip) .none kV_u_law_drip dc_u_law_drip pm_u_law_drip an_u_law_drip cd_u_law_drip ct_u_law_drip), sl_u_law_drip⟩) (c_u_law_drip : PySem.W.codeIn K cd_u_law_drip "_law_drip" = true) (k_u_law_drip : PySem.W.keepIn K (.ref f_u_law_drip) = true)
    {f_u_law_some : Addr} {od_u_law_some an_u_law_some : Option Addr} {sl_u_law_some : Array (Option Value)} {oc_u_law_some kV_u_law_some dc_u_law_some pm_u_law_some cd_u_law_some ct_u_law_some : Value}
        (a_u_law_some : PySem.W.nsIn K mainGlobals "_law_some" = some (some (.ref f_u_law_some))) (l_u_law_some : K.lookup f_u_law_some = some ⟨oc_u_law_some, od_u_law_some, .func (PySem.W.fnOf "_law_some" "_law_some" (defArgs s_u_law_some) (defBody s_u_law_some) (defScope s_u_law_some) .none kV_u_law_some dc_u_law_some pm_u_law_some an_u_law_some cd_u_law_some ct_u_law_some), sl_u_law_some⟩) (c_u_law_some : PySem.W.codeIn K cd_u_law_some "_law_some" = true) (k_u_law_some : PySem.W.keepIn K (.ref f_u_law_some) = true)
    {f_u_law_rule : Addr} {od_u_law_rule an_u_law_rule : Option Addr} {sl_u_law_rule : Array (Option Value)} {oc_u_law_rule kV_u_law_rule dc_u_law_rule pm_u_law_rule cd_u_law_rule ct_u_law_rule : Value}
        (a_u_law_rule : PySem.W.nsIn K mainGlobals "_law_rule" = some (some (.ref f_u_law_rule))) (l_u_law_rule : K.lookup f_u_law_rule = some ⟨oc_u_law_rule, od_u_law_rule, .func (PySem.W.fnOf "_law_rule" "_law_rule" (defArgs s_u_law_rule) (defBody s_u_law_rule) (defScope s_u_law_rule) .none kV_u_law_rule dc_u_law_rule pm_u_law_rule an_u_law_rule cd_u_law_rule ct_u_law_rule), sl_u_law_rule⟩) (c_u_law_rule : PySem.W.codeIn K cd_u_law_rule "_law_rule" = true) (k_u_law_rule : PySem.W.keepIn K (.ref f_u_law_rule) = true)
    {f_u_law_word : Addr} {od_u_law_word an_u_law_word : Option Addr} {sl_u_law_word : Array (Option Value)} {oc_u_law_word kV_u_law_word dc_u_law_word pm_u_law_word cd_u_law_word ct_u_law_word : Value}
        (a_u_law_word : PySem.W.nsIn K mainGlobals "_law_word" = some (some (.ref f_u_law_word))) (l_u_law_word : K.lookup f_u_law_word = some ⟨oc_u_law_word, od_u_law_word, .func (PySem.W.fnOf "_law_word" "_law_word" (defArgs s_u_law_word) (defBody s_u_law_word) (defScope s_u_law_word) .none kV_u_law_word dc_u_law_word pm_u_law_word an_u_law_word cd_u_law_word ct_u_law_word), sl_u_law_word⟩) (c_u_law_word : PySem.W.codeIn K cd_u_law_word "_law_word" = true) (k_u_law_word : PySem.W.keepIn K (.ref f_u_law_word) = true)
    {f_u_law_writing : Addr} {od_u_law_writing an_u_law_writing : Option Addr} {sl_u_law_writing : Array (Option Value)} {oc_u_law_writing kV_u_law_writing dc_u_law_writing pm_u_law_writing cd_u_law_writing ct_u_law_writing : Value}
        (a_u_law_writing : PySem.W.nsIn K mainGlobals "_law_writing" = some (some (.ref f_u_law_writing))) (l_u_law_writing : K.lookup f_u_law_writing = some ⟨oc_u_law_writing, od_u_law_writing, .func (PySem.W.fnOf "_law_writing" "_law_writing" (defArgs s_u_law_writing) (defBody s_u_law_writing) (defScope s_u_law_writing) .none kV_u_law_writing dc_u_law_writing pm_u_law_writing an_u_law_writing cd_u_law_writing ct_u_law_writing), sl_u_law_writing⟩) (c_u_law_writing : PySem.W.codeIn K cd_u_law_writing "_law_writing" = true) (k_u_law_writing : PySem.W.keepIn K (.ref f_u_law_writing) = true)
    {f_u_law_table : Addr} {od_u_law_table an_u_law_table : Option Addr} {sl_u_law_table : Array (Option Value)} {oc_u_law_table kV_u_law_table dc_u_law_table pm_u_law_table cd_u_law_table ct_u_law_table : Value}
        (a_u_law_table : PySem.W.nsIn K mainGlobals "_law_table" = some (some (.ref f_u_law_table))) (l_u_law_table : K.lookup f_u_law_table = some ⟨oc_u_law_table, od_u_law_table, .func (PySem.W.fnOf "_law_table" "_law_table" (defArgs s_u_law_table) (defBody s_u_law_table) (defScope s_u_law_table) .none kV_u_law_table dc_u_law_table pm_u_law_table an_u_law_table cd_u_law_table ct_u_law_table), sl_u_law_table⟩) (c_u_law_table : PySem.W.codeIn K cd_u_law_table "_law_table" = true) (k_u_law_table : PySem.W.keepIn K (.ref f_u_law_table) = true)
    {f_u_law_tried : Addr} {od_u_law_tried an_u_law_tried : Option Addr} {sl_u_law_tried : Array (Option Value)} {oc_u_law_tried kV_u_law_tried dc_u_law_tried pm_u_law_tried ct_u_law_tried : Value}
        {cc_u_law_tried pt_u_law_tried : Addr} {ce_u_law_tried : Value} {cdd_u_law_tried : Option Addr} {vs_u_law_tried : Array Value} {csl_u_law_tried : Array (Option Value)} {fi_u_law_tried : Str} {tf_u_law_tried tg_u_law_tried tt_u_law_tried : Tok} {fl_u_law_tried tx_u_law_tried : Int} {bi_u_law_tried : Bool}
        (a_u_law_tried : PySem.W.nsIn K mainGlobals "_law_tried" = some (some (.ref f_u_law_tried))) (l_u_law_tried : K.lookup f_u_law_tried = some ⟨oc_u_law_tried, od_u_law_tried, .func (PySem.W.fnOf "_law_tried" "_law_tried" (defArgs s_u_law_tried) (defBody s_u_law_tried) (defScope s_u_law_tried) .none kV_u_law_tried dc_u_law_tried pm_u_law_tried an_u_law_tried (.ref cc_u_law_tried) ct_u_law_tried), sl_u_law_tried⟩) (c_u_law_tried : PySem.W.codeIn K (.ref cc_u_law_tried) "_law_tried" = true) (k_u_law_tried : PySem.W.keepIn K (.ref f_u_law_tried) = true)
        (lc_u_law_tried : K.lookup cc_u_law_tried = some ⟨ce_u_law_tried, cdd_u_law_tried, .fields vs_u_law_tried, csl_u_law_tried⟩) (r_eu_law_tried : ce_u_law_tried = .type "code") (r_11u_law_tried : vs_u_law_tried[11]? = some (.ref pt_u_law_tried)) (r_18u_law_tried : vs_u_law_tried.getD 18 .none = .str fi_u_law_tried tf_u_law_tried) (r_7u_law_tried : vs_u_law_tried.getD 7 .none = .int fl_u_law_tried tg_u_law_tried) (r_9u_law_tried : vs_u_law_tried.getD 9 .none = .bool bi_u_law_tried) (r_10u_law_tried : vs_u_law_tried.getD 10 .none = .int tx_u_law_tried tt_u_law_tried) (d_nu_law_tried : cc_u_law_tried ≠ pt_u_law_tried) (np_u_law_tried : K.lookup pt_u_law_tried = none) (d_ru_law_tried : ((recsOf q).any fun e => e.name == ("_law_tried" : Str)) = true)
    {f_u_law_bent : Addr} {od_u_law_bent an_u_law_bent : Option Addr} {sl_u_law_bent : Array (Option Value)} {oc_u_law_bent kV_u_law_bent dc_u_law_bent pm_u_law_bent cd_u_law_bent ct_u_law_bent : Value}
        (a_u_law_bent : PySem.W.nsIn K mainGlobals "_law_bent" = some (some (.ref f_u_law_bent))) (l_u_law_bent : K.lookup f_u_law_bent = some ⟨oc_u_law_bent, od_u_law_bent, .func (PySem.W.fnOf "_law_bent" "_law_bent" (defArgs s_u_law_bent) (defBody s_u_law_bent) (defScope s_u_law_bent) .none kV_u_law_bent dc_u_law_bent pm_u_law_bent an_u_law_bent cd_u_law_bent ct_u_law_bent), sl_u_law_bent⟩) (c_u_law_bent : PySem.W.codeIn K cd_u_law_bent "_law_bent" = true) (k_u_law_bent : PySem.W.keepIn K (.ref f_u_law_bent) = true)
    {f_law : Addr} {od_law an_law : Option Addr} {sl_law : Array (Option Value)} {oc_law kV_law dc_law pm_law cd_law ct_law : Value}
        (a_law : PySem.W.nsIn K mainGlobals "law" = some (some (.ref f_law))) (l_law : K.lookup f_law = some ⟨oc_law, od_law, .func (PySem.W.fnOf "law" "law" (defArgs s_law) (defBody s_law) (defScope s_law) .none kV_law dc_law pm_law an_law cd_law ct_law), sl_law⟩) (c_law : PySem.W.codeIn K cd_law "law" = true) (k_law : PySem.W.keepIn K (.ref f_law) = true)
        {C_InvalidClause : Addr} (i_InvalidClause : PySem.W.nsIn K mainGlobals "InvalidClause" = some (some (.ref C_InvalidClause))) (q_InvalidClause : PySem.W.excIn K C_InvalidClause veB "ValueError.__new__" = true) (kk_InvalidClause : PySem.W.keepIn K (.ref C_InvalidClause) = true) (s_InvalidClause : PySem.W.subIn K (.ref C_InvalidClause) (.type "BaseException") = some true) (t_InvalidClause : PySem.W.typeIn K (.ref C_InvalidClause) = some (.type "type"))
        {C_InvalidRow : Addr} (i_InvalidRow : PySem.W.nsIn K mainGlobals "InvalidRow" = some (some (.ref C_InvalidRow)))
        {C_InvalidHour : Addr} (i_InvalidHour : PySem.W.nsIn K mainGlobals "InvalidHour" = some (some (.ref C_InvalidHour)))
        {C_InvalidNumber : Addr} (i_InvalidNumber : PySem.W.nsIn K mainGlobals "InvalidNumber" = some (some (.ref C_InvalidNumber)))
        {C_InvalidSeen : Addr} (i_InvalidSeen : PySem.W.nsIn K mainGlobals "InvalidSeen" = some (some (.ref C_InvalidSeen)))
        {C_InvalidIndex : Addr} (i_InvalidIndex : PySem.W.nsIn K mainGlobals "InvalidIndex" = some (some (.ref C_InvalidIndex)))
        {C_InvalidText : Addr} (i_InvalidText : PySem.W.nsIn K mainGlobals "InvalidText" = some (some (.ref C_InvalidText))) (q_InvalidText : PySem.W.excIn K C_InvalidText veB "ValueError.__new__" = true) (kk_InvalidText : PySem.W.keepIn K (.ref C_InvalidText) = true) (s_InvalidText : PySem.W.subIn K (.ref C_InvalidText) (.type "BaseException") = some true) (t_InvalidText : PySem.W.typeIn K (.ref C_InvalidText) = some (.type "type"))
        {C_Impossible : Addr} (i_Impossible : PySem.W.nsIn K mainGlobals "Impossible" = some (some (.ref C_Impossible)))
        {C_Unlike : Addr} (i_Unlike : PySem.W.nsIn K mainGlobals "Unlike" = some (some (.ref C_Unlike)))
        {C_NothingToUndo : Addr} (i_NothingToUndo : PySem.W.nsIn K mainGlobals "NothingToUndo" = some (some (.ref C_NothingToUndo)))
        (e1_InvalidClause : PySem.W.subIn K (.ref C_InvalidClause) (.type "BaseException") = some true) (e2_InvalidClause : PySem.W.isClsIn K C_InvalidClause = true) (e3_InvalidClause : PySem.W.typeIn K (.ref C_InvalidClause) = some (.type "type"))
        (e1_InvalidHour : PySem.W.subIn K (.ref C_InvalidHour) (.type "BaseException") = some true) (e2_InvalidHour : PySem.W.isClsIn K C_InvalidHour = true) (e3_InvalidHour : PySem.W.typeIn K (.ref C_InvalidHour) = some (.type "type"))
        (e1_InvalidIndex : PySem.W.subIn K (.ref C_InvalidIndex) (.type "BaseException") = some true) (e2_InvalidIndex : PySem.W.isClsIn K C_InvalidIndex = true) (e3_InvalidIndex : PySem.W.typeIn K (.ref C_InvalidIndex) = some (.type "type"))
        (e1_InvalidNumber : PySem.W.subIn K (.ref C_InvalidNumber) (.type "BaseException") = some true) (e2_InvalidNumber : PySem.W.isClsIn K C_InvalidNumber = true) (e3_InvalidNumber : PySem.W.typeIn K (.ref C_InvalidNumber) = some (.type "type"))
        (e1_InvalidRow : PySem.W.subIn K (.ref C_InvalidRow) (.type "BaseException") = some true) (e2_InvalidRow : PySem.W.isClsIn K C_InvalidRow = true) (e3_InvalidRow : PySem.W.typeIn K (.ref C_InvalidRow) = some (.type "type"))
        (e1_InvalidSeen : PySem.W.subIn K (.ref C_InvalidSeen) (.type "BaseException") = some true) (e2_InvalidSeen : PySem.W.isClsIn K C_InvalidSeen = true) (e3_InvalidSeen : PySem.W.typeIn K (.ref C_InvalidSeen) = some (.type "type"))
        (e1_InvalidText : PySem.W.subIn K (.ref C_InvalidText) (.type "BaseException") = some true) (e2_InvalidText : PySem.W.isClsIn K C_InvalidText = true) (e3_InvalidText : PySem.W.typeIn K (.ref C_InvalidText) = some (.type "type"))
        (x_InvalidClause_InvalidClause : PySem.W.subIn K (.ref C_InvalidClause) (.ref C_InvalidClause) = some true)
        (x_InvalidText_InvalidClause : PySem.W.subIn K (.ref C_InvalidText) (.ref C_InvalidClause) = some false)
        (x_InvalidText_InvalidRow : PySem.W.subIn K (.ref C_InvalidText) (.ref C_InvalidRow) = some false)
        (x_InvalidText_InvalidHour : PySem.W.subIn K (.ref C_InvalidText) (.ref C_InvalidHour) = some false)
        (x_InvalidText_InvalidNumber : PySem.W.subIn K (.ref C_InvalidText) (.ref C_InvalidNumber) = some false)
        (x_InvalidText_InvalidSeen : PySem.W.subIn K (.ref C_InvalidText) (.ref C_InvalidSeen) = some false)
        (x_InvalidText_InvalidIndex : PySem.W.subIn K (.ref C_InvalidText) (.ref C_InvalidIndex) = some false)
        (x_InvalidText_InvalidText : PySem.W.subIn K (.ref C_InvalidText) (.ref C_InvalidText) = some true)
        (z_ValueError : PySem.W.nsIn K mainGlobals "ValueError" = some none)
        (z_abs : PySem.W.nsIn K mainGlobals "abs" = some none)
        (z_bool : PySem.W.nsIn K mainGlobals "bool" = some none)
        (z_enumerate : PySem.W.nsIn K mainGlobals "enumerate" = some none)
        (z_int : PySem.W.nsIn K mainGlobals "int" = some none)
        (z_isinstance : PySem.W.nsIn K mainGlobals "isinstance" = some none)
        (z_len : PySem.W.nsIn K mainGlobals "len" = some none)
        (z_list : PySem.W.nsIn K mainGlobals "list" = some none)
        (z_min : PySem.W.nsIn K mainGlobals "min" = some none)
        (z_range : PySem.W.nsIn K mainGlobals "range" = some none)
        (z_str : PySem.W.nsIn K mainGlobals "str" = some none)
        (z_tuple : PySem.W.nsIn K mainGlobals "tuple" = some none)
        {v_MOST_GAP : Value} (y_MOST_GAP : PySem.W.nsIn K mainGlobals "MOST_GAP" = some (some v_MOST_GAP)) (r_MOST_GAP : RelV (.int (4)) v_MOST_GAP)
        {v_MOST_SPAN : Value} (y_MOST_SPAN : PySem.W.nsIn K mainGlobals "MOST_SPAN" = some (some v_MOST_SPAN)) (r_MOST_SPAN : RelV (.int (5)) v_MOST_SPAN)
        {v_MOST_SHARE : Value} (y_MOST_SHARE : PySem.W.nsIn K mainGlobals "MOST_SHARE" = some (some v_MOST_SHARE)) (r_MOST_SHARE : RelV (.int (4)) v_MOST_SHARE)
        {v_MOST_CEILING : Value} (y_MOST_CEILING : PySem.W.nsIn K mainGlobals "MOST_CEILING" = some (some v_MOST_CEILING)) (r_MOST_CEILING : RelV (.int (4)) v_MOST_CEILING)
        {p_WORDS : Addr} {ia_WORDS : Array Value} {in_WORDS : Nat} {is_WORDS : Array (Option Value)} (y_WORDS : PySem.W.nsIn K mainGlobals "WORDS" = some (some (.ref p_WORDS))) (l_WORDS : K.lookup p_WORDS = some ⟨.type "tuple", none, .seq ia_WORDS in_WORDS, is_WORDS⟩) (rz_WORDS : ia_WORDS.size ≤ sizeLine) (rt4_WORDS : Vals [.str "gap", .str "span", .str "share", .str "ceiling"] ia_WORDS.toList)
        {p_NONES : Addr} {ia_NONES : Array Value} {in_NONES : Nat} {is_NONES : Array (Option Value)} (y_NONES : PySem.W.nsIn K mainGlobals "NONES" = some (some (.ref p_NONES))) (l_NONES : K.lookup p_NONES = some ⟨.type "tuple", none, .seq ia_NONES in_NONES, is_NONES⟩) (rz_NONES : ia_NONES.size ≤ sizeLine) (rt4_NONES : Vals [.int (-1), .int (0), .int (0), .int (0)] ia_NONES.toList)
    : LamX.LawAtS l w K (L2.CX l.prog w) 9 63 "script" mg fa h := by
  have ot_u_law_tried : h.get? pt_u_law_tried = some { cls := .none, data := .fields #[] } := own "_law_tried" f_u_law_tried (PySem.W.mg_of X G a_u_law_tried) d_ru_law_tried cc_u_law_tried pt_u_law_tried _ _ _ _ _ _ l_u_law_tried rfl rfl lc_u_law_tried r_11u_law_tried
  have hd_u_law_tried : PySem.W.CodeHd h cc_u_law_tried pt_u_law_tried := ⟨_, vs_u_law_tried, fi_u_law_tried, tf_u_law_tried, fl_u_law_tried, tg_u_law_tried, bi_u_law_tried, tx_u_law_tried, tt_u_law_tried, X _ _ lc_u_law_tried, r_eu_law_tried, rfl, r_11u_law_tried, by rw [Array.getD_eq_getD_getElem?, r_11u_law_tried]; rfl, r_18u_law_tried, r_7u_law_tried, r_9u_law_tried, r_10u_law_tried, d_nu_law_tried⟩
  have e := hfa.symm.trans (PySem.W.mg_of X G a_law)
  cases e
  have F_is_int := fun_mk (st := s_is_int) l_is_int c_is_int k_is_int
  have B_is_int := F_is_int.binds (ps := ["value", "low", "high"]) fun _ _ _ _ _ _ us hl => match us, hl with | [_, _, _], _ => rfl
  have F_fits := fun_mk (st := s_fits) l_fits c_fits k_fits
  have B_fits := F_fits.binds (ps := ["value"]) fun _ _ _ _ _ _ us hl => match us, hl with | [_], _ => rfl
  have F_need_clause := fun_mk (st := s_need_clause) l_need_clause c_need_clause k_need_clause
  have B_need_clause := F_need_clause.binds (ps := ["value"]) fun _ _ _ _ _ _ us hl => match us, hl with | [_], _ => rfl
  have F_text_of := fun_mk (st := s_text_of) l_text_of c_text_of k_text_of
  have B_text_of := F_text_of.binds (ps := ["clause"]) fun _ _ _ _ _ _ us hl => match us, hl with | [_], _ => rfl
  have F_clause_in := fun_mk (st := s_clause_in) l_clause_in c_clause_in k_clause_in
  have B_clause_in := F_clause_in.binds (ps := ["value"]) fun _ _ _ _ _ _ us hl => match us, hl with | [_], _ => rfl
  have F_clause_text := fun_mk (st := s_clause_text) l_clause_text c_clause_text k_clause_text
  have B_clause_text := F_clause_text.binds (ps := ["clause"]) fun _ _ _ _ _ _ us hl => match us, hl with | [_], _ => rfl
  have F_read_clause := fun_mk (st := s_read_clause) l_read_clause c_read_clause k_read_clause
  have B_read_clause := F_read_clause.binds (ps := ["value"]) fun _ _ _ _ _ _ us hl => match us, hl with | [_], _ => rfl
  have F_u_law_cup_of := fun_mk (st := s_u_law_cup_of) l_u_law_cup_of c_u_law_cup_of k_u_law_cup_of
  have B_u_law_cup_of := F_u_law_cup_of.binds (ps := ["script", "k"]) fun _ _ _ _ _ _ us hl => match us, hl with | [_, _], _ => rfl
  have F_u_law_drip := fun_mk (st := s_u_law_drip) l_u_law_drip c_u_law_drip k_u_law_drip
  have B_u_law_drip := F_u_law_drip.binds (ps := ["cup", "many"]) fun _ _ _ _ _ _ us hl => match us, hl with | [_, _], _ => rfl
  have F_u_law_some := fun_mk (st := s_u_law_some) l_u_law_some c_u_law_some k_u_law_some
  have B_u_law_some := F_u_law_some.binds (ps := ["cup", "things"]) fun _ _ _ _ _ _ us hl => match us, hl with | [_, _], _ => rfl
  have F_u_law_rule := fun_mk (st := s_u_law_rule) l_u_law_rule c_u_law_rule k_u_law_rule
  have B_u_law_rule := F_u_law_rule.binds (ps := ["cup"]) fun _ _ _ _ _ _ us hl => match us, hl with | [_], _ => rfl
  have F_u_law_word := fun_mk (st := s_u_law_word) l_u_law_word c_u_law_word k_u_law_word
  have B_u_law_word := F_u_law_word.binds (ps := ["call"]) fun _ _ _ _ _ _ us hl => match us, hl with | [_], _ => rfl
  have F_u_law_writing := fun_mk (st := s_u_law_writing) l_u_law_writing c_u_law_writing k_u_law_writing
  have B_u_law_writing := F_u_law_writing.binds (ps := ["rule"]) fun _ _ _ _ _ _ us hl => match us, hl with | [_], _ => rfl
  have F_u_law_table := fun_mk (st := s_u_law_table) l_u_law_table c_u_law_table k_u_law_table
  have B_u_law_table := F_u_law_table.binds (ps := []) fun _ _ _ _ _ _ us hl => match us, hl with | [], _ => rfl
  have F_u_law_tried := fun_mk (st := s_u_law_tried) l_u_law_tried c_u_law_tried k_u_law_tried
  have B_u_law_tried := F_u_law_tried.binds (ps := ["value"]) fun _ _ _ _ _ _ us hl => match us, hl with | [_], _ => rfl
  have F_u_law_bent := fun_mk (st := s_u_law_bent) l_u_law_bent c_u_law_bent k_u_law_bent
  have B_u_law_bent := F_u_law_bent.binds (ps := ["cup", "text"]) fun _ _ _ _ _ _ us hl => match us, hl with | [_, _], _ => rfl
  have F_law := fun_mk (st := s_law) l_law c_law k_law
  have B_law := F_law.binds (ps := ["script"]) fun _ _ _ _ _ _ us hl => match us, hl with | [_], _ => rfl
  let t : Txt K mg := ⟨_, _, F_is_int, B_is_int, PySem.W.mg_of X G a_is_int, _, _, F_fits, B_fits, PySem.W.mg_of X G a_fits, _, _, F_need_clause, B_need_clause, PySem.W.mg_of X G a_need_clause, _, _, F_text_of, B_text_of, PySem.W.mg_of X G a_text_of, _, _, F_clause_in, B_clause_in, PySem.W.mg_of X G a_clause_in, _, _, F_clause_text, B_clause_text, PySem.W.mg_of X G a_clause_text, _, _, F_read_clause, B_read_clause, PySem.W.mg_of X G a_read_clause, _, _, F_u_law_cup_of, B_u_law_cup_of, PySem.W.mg_of X G a_u_law_cup_of, _, _, F_u_law_drip, B_u_law_drip, PySem.W.mg_of X G a_u_law_drip, _, _, F_u_law_some, B_u_law_some, PySem.W.mg_of X G a_u_law_some, _, _, F_u_law_rule, B_u_law_rule, PySem.W.mg_of X G a_u_law_rule, _, _, F_u_law_word, B_u_law_word, PySem.W.mg_of X G a_u_law_word, _, _, F_u_law_writing, B_u_law_writing, PySem.W.mg_of X G a_u_law_writing, _, _, F_u_law_table, B_u_law_table, PySem.W.mg_of X G a_u_law_table, _, _, F_u_law_tried, B_u_law_tried, PySem.W.mg_of X G a_u_law_tried, cc_u_law_tried, pt_u_law_tried, ⟨_, _, _, _, _, _, _, _, _, rfl, l_u_law_tried, c_u_law_tried, rfl⟩, _, _, F_u_law_bent, B_u_law_bent, PySem.W.mg_of X G a_u_law_bent, _, _, F_law, B_law, PySem.W.mg_of X G a_law, _, ⟨PySem.W.mg_of X G i_InvalidClause, q_InvalidClause, kk_InvalidClause, s_InvalidClause, t_InvalidClause⟩, _, PySem.W.mg_of X G i_InvalidRow, _, PySem.W.mg_of X G i_InvalidHour, _, PySem.W.mg_of X G i_InvalidNumber, _, PySem.W.mg_of X G i_InvalidSeen, _, PySem.W.mg_of X G i_InvalidIndex, _, ⟨PySem.W.mg_of X G i_InvalidText, q_InvalidText, kk_InvalidText, s_InvalidText, t_InvalidText⟩, _, PySem.W.mg_of X G i_Impossible, _, PySem.W.mg_of X G i_Unlike, _, PySem.W.mg_of X G i_NothingToUndo, exm_mk e1_InvalidClause e2_InvalidClause e3_InvalidClause x_InvalidClause_InvalidClause, exm_mk e1_InvalidClause e2_InvalidClause e3_InvalidClause x_InvalidText_InvalidClause, exm_mk e1_InvalidRow e2_InvalidRow e3_InvalidRow x_InvalidText_InvalidRow, exm_mk e1_InvalidHour e2_InvalidHour e3_InvalidHour x_InvalidText_InvalidHour, exm_mk e1_InvalidNumber e2_InvalidNumber e3_InvalidNumber x_InvalidText_InvalidNumber, exm_mk e1_InvalidSeen e2_InvalidSeen e3_InvalidSeen x_InvalidText_InvalidSeen, exm_mk e1_InvalidIndex e2_InvalidIndex e3_InvalidIndex x_InvalidText_InvalidIndex, exm_mk e1_InvalidText e2_InvalidText e3_InvalidText x_InvalidText_InvalidText, PySem.W.mg_none_of X G z_ValueError, PySem.W.mg_none_of X G z_abs, PySem.W.mg_none_of X G z_bool, PySem.W.mg_none_of X G z_enumerate, PySem.W.mg_none_of X G z_int, PySem.W.mg_none_of X G z_isinstance, PySem.W.mg_none_of X G z_len, PySem.W.mg_none_of X G z_list, PySem.W.mg_none_of X G z_min, PySem.W.mg_none_of X G z_range, PySem.W.mg_none_of X G z_str, PySem.W.mg_none_of X G z_tuple, ⟨_, PySem.W.mg_of X G y_MOST_GAP, r_MOST_GAP⟩, ⟨_, PySem.W.mg_of X G y_MOST_SPAN, r_MOST_SPAN⟩, ⟨_, PySem.W.mg_of X G y_MOST_SHARE, r_MOST_SHARE⟩, ⟨_, PySem.W.mg_of X G y_MOST_CEILING, r_MOST_CEILING⟩, ⟨_, PySem.W.mg_of X G y_WORDS, .inr ⟨_, ia_WORDS, in_WORDS, l_WORDS, rfl, rfl, rz_WORDS, rt4_WORDS⟩, _, l_WORDS, rfl, rfl⟩, ⟨_, PySem.W.mg_of X G y_NONES, .inr ⟨_, ia_NONES, in_NONES, l_NONES, rfl, rfl, rz_NONES, rt4_NONES⟩, _, l_NONES, rfl, rfl⟩⟩
  refine ⟨PySem.W.fnOf "law" "law" (defArgs s_law) (defBody s_law) (defScope s_law) .none kV_law dc_law pm_law an_law cd_law ct_law, tabs t, toSp K (tabT t) (pureF sp_law), fun p hp => by simp only [List.mem_cons, List.not_mem_nil, or_false] at hp; rcases hp with rfl <;> assumption, fun p hp => by simp only [List.mem_cons, List.not_mem_nil, or_false] at hp; rcases hp with rfl <;> assumption, fun p hp => by simp only [List.mem_cons, List.not_mem_nil, or_false] at hp; rcases hp with rfl <;> assumption, fun s v => .of_eq rfl, fun H a ns hl _ hH hS => law_startT (tab_all (ts := tabs t) rfl hH) hS fun QQ EE q => ⟨ns, rfl, hl, q⟩, fun base _ _ tb => ok_law t tb⟩
end Lw
open PySem PySem.W PyProof.Rows
set_option maxHeartbeats 0 in
theorem PySem.Challenge.cw_oneevent_k11_texts_of_clauses_holds : PySem.Challenge.rw_oneevent_k11_texts_of_clauses.Holds := by
  w_on; o_law; k_head; (case hw => w_witness2)
  k_fill
  refine DL.walk_all (l := PySem.Challenge.rw_oneevent_k11_texts_of_clauses) (n := 63) (k := 9) (x := "script") (CX := fun w => L2.CX PySem.Challenge.rw_oneevent_k11_texts_of_clauses.prog w) rfl (by decide) rfl ⟨rfl, by decide, by decide⟩ (fun w h Y => by first | exact PySem.W.kIn_of Y | exact PySem.W.km_in_of Y) ?F (fun _ _ _ _ _ h => DL.cx_top h)
  case F =>
    intro w mg fa h KX G hmg own
    refine' Lw.all_mk KX G hmg own ?a_is_int ?l_is_int ?c_is_int ?k_is_int ?a_fits ?l_fits ?c_fits ?k_fits ?a_need_clause ?l_need_clause ?c_need_clause ?k_need_clause ?a_text_of ?l_text_of ?c_text_of ?k_text_of ?a_clause_in ?l_clause_in ?c_clause_in ?k_clause_in ?a_clause_text ?l_clause_text ?c_clause_text ?k_clause_text ?a_read_clause ?l_read_clause ?c_read_clause ?k_read_clause ?a_u_law_cup_of ?l_u_law_cup_of ?c_u_law_cup_of ?k_u_law_cup_of ?a_u_law_drip ?l_u_law_drip ?c_u_law_drip ?k_u_law_drip ?a_u_law_some ?l_u_law_some ?c_u_law_some ?k_u_law_some ?a_u_law_rule ?l_u_law_rule ?c_u_law_rule ?k_u_law_rule ?a_u_law_word ?l_u_law_word ?c_u_law_word ?k_u_law_word ?a_u_law_writing ?l_u_law_writing ?c_u_law_writing ?k_u_law_writing ?a_u_law_table ?l_u_law_table ?c_u_law_table ?k_u_law_table ?a_u_law_tried ?l_u_law_tried ?c_u_law_tried ?k_u_law_tried ?lc_u_law_tried ?r_eu_law_tried ?r_11u_law_tried ?r_18u_law_tried ?r_7u_law_tried ?r_9u_law_tried ?r_10u_law_tried ?d_nu_law_tried ?np_u_law_tried ?d_ru_law_tried ?a_u_law_bent ?l_u_law_bent ?c_u_law_bent ?k_u_law_bent ?a_law ?l_law ?c_law ?k_law ?i_InvalidClause ?q_InvalidClause ?kk_InvalidClause ?s_InvalidClause ?t_InvalidClause ?i_InvalidRow ?i_InvalidHour ?i_InvalidNumber ?i_InvalidSeen ?i_InvalidIndex ?i_InvalidText ?q_InvalidText ?kk_InvalidText ?s_InvalidText ?t_InvalidText ?i_Impossible ?i_Unlike ?i_NothingToUndo ?e1_InvalidClause ?e2_InvalidClause ?e3_InvalidClause ?e1_InvalidHour ?e2_InvalidHour ?e3_InvalidHour ?e1_InvalidIndex ?e2_InvalidIndex ?e3_InvalidIndex ?e1_InvalidNumber ?e2_InvalidNumber ?e3_InvalidNumber ?e1_InvalidRow ?e2_InvalidRow ?e3_InvalidRow ?e1_InvalidSeen ?e2_InvalidSeen ?e3_InvalidSeen ?e1_InvalidText ?e2_InvalidText ?e3_InvalidText ?x_InvalidClause_InvalidClause ?x_InvalidText_InvalidClause ?x_InvalidText_InvalidRow ?x_InvalidText_InvalidHour ?x_InvalidText_InvalidNumber ?x_InvalidText_InvalidSeen ?x_InvalidText_InvalidIndex ?x_InvalidText_InvalidText ?z_ValueError ?z_abs ?z_bool ?z_enumerate ?z_int ?z_isinstance ?z_len ?z_list ?z_min ?z_range ?z_str ?z_tuple ?y_MOST_GAP ?r_MOST_GAP ?y_MOST_SPAN ?r_MOST_SPAN ?y_MOST_SHARE ?r_MOST_SHARE ?y_MOST_CEILING ?r_MOST_CEILING ?y_WORDS ?l_WORDS ?rz_WORDS ?rt4_WORDS ?y_NONES ?l_NONES ?rz_NONES ?rt4_NONES
    (case a_is_int => k_is)
    (case l_is_int => k_is)
    (case c_is_int => k_is)
    (case k_is_int => k_is)
    (case a_fits => k_is)
    (case l_fits => k_is)
    (case c_fits => k_is)
    (case k_fits => k_is)
    (case a_need_clause => k_is)
    (case l_need_clause => k_is)
    (case c_need_clause => k_is)
    (case k_need_clause => k_is)
    (case a_text_of => k_is)
    (case l_text_of => k_is)
    (case c_text_of => k_is)
    (case k_text_of => k_is)
    (case a_clause_in => k_is)
    (case l_clause_in => k_is)
    (case c_clause_in => k_is)
    (case k_clause_in => k_is)
    (case a_clause_text => k_is)
    (case l_clause_text => k_is)
    (case c_clause_text => k_is)
    (case k_clause_text => k_is)
    (case a_read_clause => k_is)
    (case l_read_clause => k_is)
    (case c_read_clause => k_is)
    (case k_read_clause => k_is)
    (case a_u_law_cup_of => k_is)
    (case l_u_law_cup_of => k_is)
    (case c_u_law_cup_of => k_is)
    (case k_u_law_cup_of => k_is)
    (case a_u_law_drip => k_is)
    (case l_u_law_drip => k_is)
    (case c_u_law_drip => k_is)
    (case k_u_law_drip => k_is)
    (case a_u_law_some => k_is)
    (case l_u_law_some => k_is)
    (case c_u_law_some => k_is)
    (case k_u_law_some => k_is)
    (case a_u_law_rule => k_is)
    (case l_u_law_rule => k_is)
    (case c_u_law_rule => k_is)
    (case k_u_law_rule => k_is)
    (case a_u_law_word => k_is)
    (case l_u_law_word => k_is)
    (case c_u_law_word => k_is)
    (case k_u_law_word => k_is)
    (case a_u_law_writing => k_is)
    (case l_u_law_writing => k_is)
    (case c_u_law_writing => k_is)
    (case k_u_law_writing => k_is)
    (case a_u_law_table => k_is)
    (case l_u_law_table => k_is)
    (case c_u_law_table => k_is)
    (case k_u_law_table => k_is)
    (case a_u_law_tried => k_is)
    (case l_u_law_tried => k_is)
    (case c_u_law_tried => k_is)
    (case k_u_law_tried => k_is)
    (case lc_u_law_tried => k_is)
    (case r_eu_law_tried => first | rfl | exact ⟨_, rfl⟩)
    (case r_11u_law_tried => first | rfl | exact ⟨_, rfl⟩)
    (case r_18u_law_tried => first | rfl | exact ⟨_, rfl⟩)
    (case r_7u_law_tried => first | rfl | exact ⟨_, rfl⟩)
    (case r_9u_law_tried => first | rfl | exact ⟨_, rfl⟩)
    (case r_10u_law_tried => first | rfl | exact ⟨_, rfl⟩)
    (case d_nu_law_tried => first | decide | rfl | decide +kernel)
    (case np_u_law_tried => first | rfl | kernel_rfl | with_unfolding_all rfl)
    (case d_ru_law_tried => first | rfl | decide +kernel)
    (case a_u_law_bent => k_is)
    (case l_u_law_bent => k_is)
    (case c_u_law_bent => k_is)
    (case k_u_law_bent => k_is)
    (case a_law => k_is)
    (case l_law => k_is)
    (case c_law => k_is)
    (case k_law => k_is)
    (case i_InvalidClause => k_is)
    (case q_InvalidClause => k_exc)
    (case kk_InvalidClause => k_is)
    (case s_InvalidClause => k_is)
    (case t_InvalidClause => k_is)
    (case i_InvalidRow => k_is)
    (case i_InvalidHour => k_is)
    (case i_InvalidNumber => k_is)
    (case i_InvalidSeen => k_is)
    (case i_InvalidIndex => k_is)
    (case i_InvalidText => k_is)
    (case q_InvalidText => k_exc)
    (case kk_InvalidText => k_is)
    (case s_InvalidText => k_is)
    (case t_InvalidText => k_is)
    (case i_Impossible => k_is)
    (case i_Unlike => k_is)
    (case i_NothingToUndo => k_is)
    (case e1_InvalidClause => k_is)
    (case e2_InvalidClause => k_is)
    (case e3_InvalidClause => k_is)
    (case e1_InvalidHour => k_is)
    (case e2_InvalidHour => k_is)
    (case e3_InvalidHour => k_is)
    (case e1_InvalidIndex => k_is)
    (case e2_InvalidIndex => k_is)
    (case e3_InvalidIndex => k_is)
    (case e1_InvalidNumber => k_is)
    (case e2_InvalidNumber => k_is)
    (case e3_InvalidNumber => k_is)
    (case e1_InvalidRow => k_is)
    (case e2_InvalidRow => k_is)
    (case e3_InvalidRow => k_is)
    (case e1_InvalidSeen => k_is)
    (case e2_InvalidSeen => k_is)
    (case e3_InvalidSeen => k_is)
    (case e1_InvalidText => k_is)
    (case e2_InvalidText => k_is)
    (case e3_InvalidText => k_is)
    (case x_InvalidClause_InvalidClause => k_is)
    (case x_InvalidText_InvalidClause => k_is)
    (case x_InvalidText_InvalidRow => k_is)
    (case x_InvalidText_InvalidHour => k_is)
    (case x_InvalidText_InvalidNumber => k_is)
    (case x_InvalidText_InvalidSeen => k_is)
    (case x_InvalidText_InvalidIndex => k_is)
    (case x_InvalidText_InvalidText => k_is)
    (case z_ValueError => k_is)
    (case z_abs => k_is)
    (case z_bool => k_is)
    (case z_enumerate => k_is)
    (case z_int => k_is)
    (case z_isinstance => k_is)
    (case z_len => k_is)
    (case z_list => k_is)
    (case z_min => k_is)
    (case z_range => k_is)
    (case z_str => k_is)
    (case z_tuple => k_is)
    (case y_MOST_GAP => k_is)
    (case r_MOST_GAP => first | rfl | exact ⟨_, rfl⟩)
    (case y_MOST_SPAN => k_is)
    (case r_MOST_SPAN => first | rfl | exact ⟨_, rfl⟩)
    (case y_MOST_SHARE => k_is)
    (case r_MOST_SHARE => first | rfl | exact ⟨_, rfl⟩)
    (case y_MOST_CEILING => k_is)
    (case r_MOST_CEILING => first | rfl | exact ⟨_, rfl⟩)
    (case y_WORDS => k_is)
    (case l_WORDS => k_is)
    (case rz_WORDS => rw [sizeLine_eq]; exact Nat.le_of_ble_eq_true rfl)
    (case rt4_WORDS => exact .cons ⟨_, rfl⟩ (.cons ⟨_, rfl⟩ (.cons ⟨_, rfl⟩ (.cons ⟨_, rfl⟩ (.nil)))))
    (case y_NONES => k_is)
    (case l_NONES => k_is)
    (case rz_NONES => rw [sizeLine_eq]; exact Nat.le_of_ble_eq_true rfl)
    (case rt4_NONES => exact .cons ⟨_, rfl⟩ (.cons ⟨_, rfl⟩ (.cons ⟨_, rfl⟩ (.cons ⟨_, rfl⟩ (.nil)))))
